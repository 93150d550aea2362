import PyProof.Rows.All
import Wide.All
import OpenK.AllK
import Wide.FinOn
import HandS.Wide
import HandS.ForMost
import HandS.Slots
import HandS.Lambda
import HandS.Style
import HandS.Codes
import HandS.SlotsOwn
import PyProof.Draws
import PyProof.EnumMake
import HandS.IsInst
import HandS.IntHex
import HandS.Defaults
import PyProof.Rows.RegReprOcc
import HandS.WordsDict
import HandS.TupLen
import KE.IntTextLaws
import HandS.Deep
import HandS.FStr
import HandS.ClsMeth
import PyProof.FString3
import PyProof.Rows.StrIntSpec
import PyProof.SumWalkG
import HandS.Star
import HandS.DictComp
import HandS.More
import PyProof.InstNe
import PyProof.WalkInts
import PyProof.StrOps
import HandS.SortInts
import HandS.Text
import KE.GoesMore
import HandS.Zip0
import HandS.SetBool
import HandS.SetFor
import HandS.SetKeys
import HandS.Strs
import HandS.OwnEq
import KE.KBoundM
import PyProof.ListStr
import HandS.Rev
import HandS.MapJoin
import KE.KSortTupAny
import HandS.SortOrd
import PyProof.ReprRoads
import HandS.Flow
import KE.KExcSuper
import HandS.ExcOwn
import HandS.ExcField
import HandS.ExcIs
import HandS.WordsExc
import KE.RegKSuper
import KE.SortData
import KE.KDictSum
import HandS.DictTup
import HandS.NoneIn
import HandS.Iter
import HandS.EndTab
import KE.SortKeyHeap
import HandS.SortKw
import HandS.DeepEq
import HandS.Finally
import PyProof.FactsLen
import KE.KDictList
import KE.DataMinMax
import KE.DataEq
import KE.KDictKeyed
import PyProof.Rows.TupTab
import HandS.IterVal
import HandS.TupAny
import KE.KRevSl
import PySem.Challenge.RW_standwaves_k44_whole_calendars_as_sets
set_option Elab.async false
set_option maxRecDepth 100000
set_option autoImplicit false
set_option maxHeartbeats 4000000
namespace DL
open PySem L2
class TabList where
  T : List (Addr × Str)
  K : Option PySem.W.Frag
instance (priority := low) noTabs : TabList := ⟨[], none⟩
class Eff where
  x : Bool
instance (priority := low) noEff : Eff := ⟨false⟩
variable [TAB : TabList]
variable [EFF : Eff]
set_option linter.unusedSectionVars false
def TabsOk (G H : Hp) : Prop := ∀ p ∈ TAB.T, G p.1 = none ∧ LamX.TabS H p.1 p.2
theorem TabsOk.ne {G H : Hp} (t : TabsOk G H) {p : Addr × Str} (h : p ∈ TAB.T) : ∃ o, H p.1 = some o := by
  obtain ⟨_, ps, h1, _⟩ := t p h
  exact ⟨_, h1⟩
theorem TabsOk.ext {G H G' H' : Hp} (t : TabsOk G H) (g : ∀ p ∈ TAB.T, G' p.1 = none) (e : ∀ b o, H b = some o → H' b = some o) : TabsOk G' H' := fun p hp => ⟨g p hp, (t p hp).2.ext e⟩
theorem TabS.mut {H : Hp} {P p : Addr} {q : Str} {o : HO} (t : LamX.TabS H P q) (np : P ≠ p) (nc : ∀ c q, H p ≠ some (LamX.CodeO c q)) : LamX.TabS (upd H p o) P q := by
  obtain ⟨ps, h1, h2, h3⟩ := t
  refine ⟨ps, by rw [upd_ne np]; exact h1, h2, fun pos cv hc => ?_⟩
  obtain ⟨c, e1, e2⟩ := h3 pos cv hc
  refine ⟨c, e1, ?_⟩
  rw [upd_ne]
  · exact e2
  · rintro rfl
    exact nc _ _ e2
structure LamI where
  params : Arguments
  body : Expr
  scope : Scope
  qual : Str
  frees : List Str
def FunX (f : Addr) (l : LamI) (cl : List (Str × Addr)) (c : Addr) : HO := .ext fun h => ∃ pm ctv : Value, h.get? f = some (PySem.W.kla_obj "<lambda>" l.qual l.params l.body l.scope cl pm c ctv)
def CellX (c : Addr) (o : Obj) : HO := .ext fun h => h.get? c = some o
def CellsAt (G : Hp) (cl : List (Str × Addr)) : List Str → List V → Prop
  | [], [] => True
  | y :: ys, v :: vs => (∃ c o u, cl.lookup y = some c ∧ G c = some (CellX c o) ∧ o.data = .cell (some u) ∧ RelV v u) ∧ CellsAt G cl ys vs
  | _, _ => False
theorem CellsAt.mono {G G' : Hp} {cl : List (Str × Addr)} (e : ∀ a o, G a = some o → G' a = some o) : ∀ {ys : List Str} {vs : List V}, CellsAt G cl ys vs → CellsAt G' cl ys vs
  | [], [], _ => trivial
  | _ :: _, _ :: _, ⟨⟨c, o, u, h1, h2, h3⟩, r⟩ => ⟨⟨c, o, u, h1, e _ _ h2, h3⟩, CellsAt.mono e r⟩
  | [], _ :: _, h => h.elim
  | _ :: _, [], h => h.elim
structure ClK (l : LamI) (cl : List (Str × Addr)) : Prop where
  keys : ∀ y c, cl.lookup y = some c → y ∈ l.frees
  inj : ∀ x y c, cl.lookup x = some c → cl.lookup y = some c → x = y
theorem CellX_ng {c : Addr} {o : Obj} {k : Nat} : CellX c o ≠ .own k := fun z => by unfold CellX at z; cases z
def ClAt (G : Hp) (l : LamI) (cl : List (Str × Addr)) (vs : List V) : Prop := ClK l cl ∧ CellsAt G cl l.frees vs
theorem ClAt.mono {G G' : Hp} {l : LamI} {cl : List (Str × Addr)} {vs : List V} (e : ∀ a o, G a = some o → G' a = some o) (h : ClAt G l cl vs) : ClAt G' l cl vs := ⟨h.1, h.2.mono e⟩
abbrev ghost (k : Nat) : HO := .own k
theorem ghost_inj {i j : Nat} (h : ghost i = ghost j) : i = j := HO.own.inj h
def frOk : HO → Option HO → Prop
  | .own _, x => x ≠ none
  | o, x => x = some o
theorem frOk_of {o : HO} {x : Option HO} (h : x = some o) : frOk o x := by
  cases o <;> first | exact h | (rw [h]; exact fun z => nomatch z)
theorem frOk_ne {o : HO} {x : Option HO} (h : frOk o x) : x ≠ none := by
  cases o <;> first | exact h | (intro z; rw [z] at h; cases h)
theorem frOk_eq {o : HO} {x : Option HO} (h : frOk o x) (n : ∀ k, o ≠ ghost k) : x = some o := by
  cases o <;> first | exact h | exact absurd rfl (n _)
def SameF (G H : Hp) : Prop := ∀ a o, G a = some o → frOk o (H a)
theorem SameF.of {G H : Hp} (h : Same G H) : SameF G H := fun a o e => frOk_of (h a o e)
theorem CellsAt.monoF {G G' : Hp} {cl : List (Str × Addr)} (e : SameF G G') : ∀ {ys : List Str} {vs : List V}, CellsAt G cl ys vs → CellsAt G' cl ys vs
  | [], [], _ => trivial
  | _ :: _, _ :: _, ⟨⟨c, o, u, h1, h2, h3⟩, r⟩ => ⟨⟨c, o, u, h1, frOk_eq (e _ _ h2) fun k => CellX_ng, h3⟩, CellsAt.monoF e r⟩
  | [], _ :: _, h => h.elim
  | _ :: _, [], h => h.elim
theorem ClAt.monoF {G G' : Hp} {l : LamI} {cl : List (Str × Addr)} {vs : List V} (e : SameF G G') (h : ClAt G l cl vs) : ClAt G' l cl vs := ⟨h.1, h.2.monoF e⟩
theorem SameF.rd {G H : Hp} {a : Addr} {u : HO} (e : SameF G H) (h : Rd G a u) (hu : ∀ k, u ≠ ghost k := by intro k z; cases z) : Rd H a u := by
  rcases h with h | ⟨o, h⟩
  · exact .inl (frOk_eq (e _ _ h) hu)
  · exact .inr ⟨o, frOk_eq (e _ _ h) (fun k z => nomatch z)⟩
theorem SameF.sqt {K : PySem.W.Frag} {H H' : Hp} {a : Addr} {xs : List V} (e : SameF H H') (h : SqT K H a xs) : SqT K H' a xs := by
  rcases h with h | h
  · exact .inl (SameF.rd e h)
  · exact .inr h
theorem SameF.seq {K : PySem.W.Frag} {H H' : Hp} {a : Addr} {xs : List V} (e : SameF H H') (h : SqL K H a xs) : SqL K H' a xs := by
  rcases h with h | h
  · exact .inl (SameF.rd e h)
  · exact .inr h
inductive D where
  | non | bl (b : Bool) | int (i : Int) | str (x : List Nat) | lst (xs : List D) | tup (xs : List D) | dct (ks : List Key) (vs : List D) | dcT (ks : List (List Key)) (vs : List D) | obj (c : Nat) (fs : List D) | bag (p : Addr) | scr (ns : List Int) | exc (a : Addr) (dx : Option Addr) (c : Nat) (fs : List D) | clo (l : LamI) (ds : List D) | cel (k : Nat)
def clsName : Nat → Str
  | 0 => "Rule" | 1 => "Line" | 2 => "Calendar" | 3 => "Web" | 4 => "Moment" | 5 => "Game" | _ => "Desk"
def errName : Nat → Str
  | 0 => "Wrong" | 1 => "NoStand" | 2 => "TooMany" | 3 => "NoWalk" | 4 => "NoNumber" | 5 => "Jump" | 6 => "Turns" | 7 => "NoPlace" | 8 => "NoSeats" | 9 => "NoDeed" | 10 => "Full" | 11 => "Refused" | 12 => "Nothing" | 13 => "NoEntry" | 14 => "NoText" | 15 => "Broken" | 16 => "NoCommand" | _ => "WaveError"
def errFld : Nat → Str
  | 0 => "place" | 1 => "rows" | 2 => "limit" | 3 => "thing" | 4 => "number" | 5 => "seat" | 6 => "number" | 7 => "place" | 8 => "seats" | 9 => "deed" | 10 => "limit" | 11 => "deed" | 12 => "" | 13 => "many" | 14 => "thing" | 15 => "line" | 16 => "line" | _ => ""
def ExD (G : Hp) : Option Addr → Nat → List V → Prop
  | some dx, c, [v] => G dx = some (.xd [(errFld c, v)])
  | none, _, [] => True
  | _, _, _ => False
theorem ExD.mono {G G' : Hp} (e : Same G G') : ∀ {dx : Option Addr} {c : Nat} {vs : List V}, ExD G dx c vs → ExD G' dx c vs
  | some _, _, [_], h => e _ _ h
  | none, _, [], _ => trivial
  | some _, _, [], h => h.elim
  | some _, _, _ :: _ :: _, h => h.elim
  | none, _, _ :: _, h => h.elim
def D.flat : D → Bool
  | .lst _ => false | .tup _ => false | .dct _ _ => false | .dcT _ _ => false | .obj _ _ => false | .scr _ => false | .exc _ _ _ _ => false | .clo _ _ => false | .cel _ => false | _ => true
mutual
inductive Rp (K : PySem.W.Frag) (G : Hp) : V → D → Prop
  | non : Rp K G .non .non
  | bl (b : Bool) : Rp K G (.bl b) (.bl b)
  | int (i : Int) : Rp K G (.int i) (.int i)
  | str (x : List Nat) : Rp K G (.str ⟨x.toArray⟩) (.str x)
  | lst {a : Addr} {vs : List V} {ds : List D} : G a = some (.lst vs) → RpL K G vs ds → Rp K G (.ref a) (.lst ds)
  | tup {a : Addr} {vs : List V} {ds : List D} : SqT K G a vs → RpL K G vs ds → Rp K G (.ref a) (.tup ds)
  | dct {a : Addr} {ks : List Key} {vs : List V} {ds : List D} : Rd G a (.dK (ks.zip vs)) → ks.length = vs.length → RpL K G vs ds → Rp K G (.ref a) (.dct ks ds)
  | dcT {a : Addr} {ks : List (List Key)} {vs : List V} {ds : List D} : Rd G a (.dT (ks.zip vs)) → ks.length = vs.length → RpL K G vs ds → Rp K G (.ref a) (.dcT ks ds)
  | obj {c : Nat} {a C dx : Addr} {vs : List V} {ds : List D} : PySem.W.nsIn K mainGlobals (clsName c) = some (some (.ref C)) → G a = some (SlX.SlO a C dx (vs.map some)) → G dx = some (.xd []) → RpL K G vs ds → Rp K G (.ref a) (.obj c ds)
  | bag (p : Addr) : Rp K G (.ref p) (.bag p)
  | scr {a : Addr} {ns : List Int} : SqL K G a (ns.map V.int) → Rp K G (.ref a) (.scr ns)
  | exc {a : Addr} {dx : Option Addr} {c : Nat} {vs : List V} {ds : List D} : ExD G dx c vs → RpL K G vs ds → Rp K G (.ref a) (.exc a dx c ds)
  | clo {f c : Addr} {l : LamI} {cl : List (Str × Addr)} {vs : List V} {ds : List D} : G f = some (FunX f l cl c) → G c = some (LamX.CodeO c l.qual) → ClAt G l cl vs → RpL K G vs ds → Rp K G (.ref f) (.clo l ds)
  | cel {a : Addr} {k : Nat} : G a = some (ghost k) → Rp K G (.ref a) (.cel k)
inductive RpL (K : PySem.W.Frag) (G : Hp) : List V → List D → Prop
  | nil : RpL K G [] []
  | cons {v : V} {vs : List V} {d : D} {ds : List D} : Rp K G v d → RpL K G vs ds → RpL K G (v :: vs) (d :: ds)
end
theorem Same.rd {H H' : Hp} {a : Addr} {u : HO} (e : Same H H') (h : Rd H a u) : Rd H' a u := by
  rcases h with h | ⟨o, h⟩
  · exact .inl (e _ _ h)
  · exact .inr ⟨o, e _ _ h⟩
theorem Same.sqt {K : PySem.W.Frag} {H H' : Hp} {a : Addr} {xs : List V} (e : Same H H') (h : SqT K H a xs) : SqT K H' a xs := by
  rcases h with (h | ⟨o, h⟩) | h
  · exact .inl (.inl (e _ _ h))
  · exact .inl (.inr ⟨o, e _ _ h⟩)
  · exact .inr h
mutual
theorem Rp.mono {K : PySem.W.Frag} {G G' : Hp} (e : Same G G') : ∀ {v : V} {d : D}, Rp K G v d → Rp K G' v d
  | _, _, .non => .non
  | _, _, .bl b => .bl b
  | _, _, .int i => .int i
  | _, _, .str x => .str x
  | _, _, .lst h r => .lst (e _ _ h) (RpL.mono e r)
  | _, _, .tup h r => .tup (Same.sqt e h) (RpL.mono e r)
  | _, _, .dct h l r => .dct (Same.rd e h) l (RpL.mono e r)
  | _, _, .dcT h l r => .dcT (Same.rd e h) l (RpL.mono e r)
  | _, _, .obj h0 h h2 r => .obj h0 (e _ _ h) (e _ _ h2) (RpL.mono e r)
  | _, _, .bag p => .bag p
  | _, _, .scr h => .scr (Same.seq e h)
  | _, _, .exc h r => .exc (h.mono e) (RpL.mono e r)
  | _, _, .clo h h2 h3 r => .clo (e _ _ h) (e _ _ h2) (h3.mono e) (RpL.mono e r)
  | _, _, .cel h => .cel (e _ _ h)
theorem RpL.mono {K : PySem.W.Frag} {G G' : Hp} (e : Same G G') : ∀ {vs : List V} {ds : List D}, RpL K G vs ds → RpL K G' vs ds
  | _, _, .nil => .nil
  | _, _, .cons a b => .cons (Rp.mono e a) (RpL.mono e b)
end
theorem Rp.flat_any {K : PySem.W.Frag} {G G' : Hp} {v : V} {d : D} (h : Rp K G v d) (f : d.flat = true) : Rp K G' v d := by
  cases h with
  | non => exact .non
  | bl b => exact .bl b
  | int i => exact .int i
  | str x => exact .str x
  | bag p => exact .bag p
  | lst h r => cases f
  | tup h r => cases f
  | dct h l r => cases f
  | dcT h l r => cases f
  | obj h0 h h2 r => cases f
  | scr h => cases f
  | exc h r => cases f
  | clo h h2 h3 r => cases f
  | cel _ => cases f
theorem RpL.flat_any {K : PySem.W.Frag} {G G' : Hp} : ∀ {vs : List V} {ds : List D}, RpL K G vs ds → ds.all D.flat = true → RpL K G' vs ds
  | _, _, .nil, _ => .nil
  | _, _, .cons a b, f => by
    simp only [List.all_cons, Bool.and_eq_true] at f
    exact .cons (a.flat_any f.1) (RpL.flat_any b f.2)
theorem RpL.length {K : PySem.W.Frag} {G : Hp} : ∀ {vs : List V} {ds : List D}, RpL K G vs ds → vs.length = ds.length
  | _, _, .nil => rfl
  | _, _, .cons _ b => by simp [RpL.length b]
theorem RpL.get {K : PySem.W.Frag} {G : Hp} : ∀ {vs : List V} {ds : List D} {i : Nat} {d : D}, RpL K G vs ds → ds[i]? = some d → ∃ v, vs[i]? = some v ∧ Rp K G v d
  | _, _, _, _, .nil, h => by simp at h
  | _, _, 0, _, .cons a _, h => by simp at h; subst h; exact ⟨_, rfl, a⟩
  | _, _, i + 1, d, .cons _ b, h => by
    obtain ⟨v, h1, h2⟩ := RpL.get (i := i) (d := d) b (by simpa using h)
    exact ⟨v, by simpa using h1, h2⟩
theorem RpL.append {K : PySem.W.Frag} {G : Hp} : ∀ {vs ws : List V} {ds es : List D}, RpL K G vs ds → RpL K G ws es → RpL K G (vs ++ ws) (ds ++ es)
  | _, _, _, _, .nil, h => h
  | _, _, _, _, .cons a b, h => .cons a (RpL.append b h)
theorem RpL.drop {K : PySem.W.Frag} {G : Hp} : ∀ {vs : List V} {ds : List D} (n : Nat), RpL K G vs ds → RpL K G (vs.drop n) (ds.drop n)
  | _, _, 0, h => h
  | _, _, _ + 1, .nil => .nil
  | _, _, n + 1, .cons _ b => RpL.drop n b
theorem RpL.take {K : PySem.W.Frag} {G : Hp} : ∀ {vs : List V} {ds : List D} (n : Nat), RpL K G vs ds → RpL K G (vs.take n) (ds.take n)
  | _, _, 0, _ => .nil
  | _, _, _ + 1, .nil => .nil
  | _, _, n + 1, .cons a b => .cons a (RpL.take n b)
inductive Cell where
  | lst (xs : List D) | dK (ks : List Key) (vs : List D) | dT (ks : List (List Key)) (vs : List D) | obj (c : Nat) (fs : List (Option D))
inductive RpO (K : PySem.W.Frag) (G : Hp) : List (Option V) → List (Option D) → Prop
  | nil : RpO K G [] []
  | no {vs : List (Option V)} {ds : List (Option D)} : RpO K G vs ds → RpO K G (none :: vs) (none :: ds)
  | yes {v : V} {d : D} {vs : List (Option V)} {ds : List (Option D)} : Rp K G v d → RpO K G vs ds → RpO K G (some v :: vs) (some d :: ds)
theorem RpO.mono {K : PySem.W.Frag} {G G' : Hp} (e : Same G G') : ∀ {vs : List (Option V)} {ds : List (Option D)}, RpO K G vs ds → RpO K G' vs ds
  | _, _, .nil => .nil
  | _, _, .no r => .no (RpO.mono e r)
  | _, _, .yes a r => .yes (a.mono e) (RpO.mono e r)
structure Bg where
  p : Addr
  q : Addr
  z0 : Int
  z1 : Int
  z2 : Int
  cs : List Int
  st : List Cell
abbrev Bs := Option Bg
def Bs.bagAt : Bs → Option Addr
  | none => none
  | some g => some g.p
def Bs.hit (b : Bs) (a : Addr) : Prop := b.bagAt = some a ∨ ∃ q, (a, q) ∈ TAB.T
mutual
def D.noc : D → Bool
  | .clo _ _ => false
  | .lst xs => nocL xs
  | .tup xs => nocL xs
  | .dct _ xs => nocL xs
  | .dcT _ xs => nocL xs
  | .obj _ xs => nocL xs
  | .exc _ _ _ xs => nocL xs
  | _ => true
def nocL : List D → Bool
  | [] => true
  | x :: r => x.noc && nocL r
end
def nocO : List (Option D) → Bool
  | [] => true
  | none :: r => nocO r
  | some x :: r => x.noc && nocO r
def CellAt (G H : Hp) (a : Addr) : Cell → Prop
  | .lst xs => ∃ K vs, TAB.K = some K ∧ nocL xs = true ∧ H a = some (.lst vs) ∧ RpL K G vs xs
  | .dK ks xs => ∃ K vs, TAB.K = some K ∧ nocL xs = true ∧ H a = some (.dK (ks.zip vs)) ∧ ks.length = vs.length ∧ RpL K G vs xs
  | .dT ks xs => ∃ K vs, TAB.K = some K ∧ nocL xs = true ∧ H a = some (.dT (ks.zip vs)) ∧ ks.length = vs.length ∧ RpL K G vs xs
  | .obj c xs => ∃ K C dx vs, TAB.K = some K ∧ nocO xs = true ∧ PySem.W.nsIn K mainGlobals (clsName c) = some (some (.ref C)) ∧ H a = some (SlX.SlO a C dx vs) ∧ G dx = some (.xd []) ∧ RpO K G vs xs
theorem CellAt.ext {G H G' H' : Hp} {a : Addr} (e : Same G G') (h : H' a = H a) : ∀ {c : Cell}, CellAt G H a c → CellAt G' H' a c
  | .lst _, ⟨K, vs, k, nc, p, r⟩ => ⟨K, vs, k, nc, by rw [h]; exact p, r.mono e⟩
  | .dK _ _, ⟨K, vs, k, nc, p, l, r⟩ => ⟨K, vs, k, nc, by rw [h]; exact p, l, r.mono e⟩
  | .dT _ _, ⟨K, vs, k, nc, p, l, r⟩ => ⟨K, vs, k, nc, by rw [h]; exact p, l, r.mono e⟩
  | .obj _ _, ⟨K, C, dx, vs, k, nc, n, p, d, r⟩ => ⟨K, C, dx, vs, k, nc, n, by rw [h]; exact p, e _ _ d, r.mono e⟩
theorem CellAt.ne {G H : Hp} {a : Addr} : ∀ {c : Cell}, CellAt G H a c → ∃ o, H a = some o
  | .lst _, ⟨_, _, _, _, p, _⟩ => ⟨_, p⟩
  | .dK _ _, ⟨_, _, _, _, p, _⟩ => ⟨_, p⟩
  | .dT _ _, ⟨_, _, _, _, p, _⟩ => ⟨_, p⟩
  | .obj _ _, ⟨_, _, _, _, _, _, _, p, _⟩ => ⟨_, p⟩
structure CelOk (G H : Hp) (st : List Cell) : Prop where
  at_ : ∀ k c, st[k]? = some c → ∃ a, G a = some (ghost k) ∧ CellAt G H a c
  one : ∀ a b k, G a = some (ghost k) → G b = some (ghost k) → a = b
  lt : ∀ a k, G a = some (ghost k) → k < st.length
theorem CelOk.ext {G H G' H' : Hp} {st : List Cell} (h : CelOk G H st) (gs : Same G G') (gi : ∀ a k, G' a = some (ghost k) → G a = some (ghost k)) (ec : ∀ a k, G a = some (ghost k) → H' a = H a) : CelOk G' H' st :=
  ⟨fun k c e => by
    obtain ⟨a, g, x⟩ := h.at_ k c e
    exact ⟨a, gs _ _ g, x.ext gs (ec a k g)⟩, fun a b k x y => h.one a b k (gi _ _ x) (gi _ _ y), fun a k x => h.lt a k (gi _ _ x)⟩
theorem CelOk.ne {G H : Hp} {st : List Cell} (h : CelOk G H st) {a : Addr} {k : Nat} (g : G a = some (ghost k)) : ∃ o, H a = some o := by
  obtain ⟨b, g', x⟩ := h.at_ k _ (List.getElem?_eq_getElem (h.lt a k g))
  cases h.one a b k g g'
  exact x.ne
theorem CelOk.nil {G H : Hp} (h : ∀ a k, G a ≠ some (ghost k)) : CelOk G H [] := ⟨fun k c e => by simp at e, fun a b k x _ => absurd x (h _ _), fun a k x => absurd x (h _ _)⟩
def BagP (G H : Hp) : Bs → Prop
  | none => ∀ a k, G a ≠ some (ghost k)
  | some g => G g.p = none ∧ H g.p = some (.lst [.int g.z0, .int g.z1, .int g.z2, .ref g.q]) ∧ G g.q = some (.lst (g.cs.map V.int)) ∧ CelOk G H g.st
def BagOk (G H : Hp) (b : Bs) : Prop := BagP G H b ∧ TabsOk G H
theorem BagP.ne {G H : Hp} : ∀ {b : Bs}, BagP G H b → ∀ {a : Addr} {k : Nat}, G a = some (ghost k) → ∃ o, H a = some o
  | none, h, a, k, g => absurd g (h a k)
  | some _, h, _, _, g => h.2.2.2.ne g
theorem BagOk.hitG {G H : Hp} {b : Bs} {a : Addr} (ob : BagOk G H b) (z : b.hit a) : G a = none := by
  rcases z with z | ⟨q, z⟩
  · cases b with
    | none => cases z
    | some g => cases z; exact ob.1.1
  · exact (ob.2 _ z).1
theorem BagOk.hitH {G H : Hp} {b : Bs} {a : Addr} (ob : BagOk G H b) (z : b.hit a) : ∃ o, H a = some o := by
  rcases z with z | ⟨q, z⟩
  · cases b with
    | none => cases z
    | some g => cases z; exact ⟨_, ob.1.2.1⟩
  · exact ob.2.ne z
def Bs.likeB (x : Bool) : Bs → Bs → Prop
  | none, none => True
  | some g, some h => g.p = h.p ∧ g.q = h.q ∧ g.cs = h.cs ∧ (x = false → g.st = h.st)
  | _, _ => False
abbrev Bs.like (a b : Bs) : Prop := Bs.likeB false a b
theorem Bs.like_refl {x : Bool} : ∀ b : Bs, b.likeB x b
  | none => trivial
  | some _ => ⟨rfl, rfl, rfl, fun _ => rfl⟩
theorem Bs.like_trans {x : Bool} : ∀ {a b c : Bs}, a.likeB x b → b.likeB x c → a.likeB x c
  | none, none, none, _, _ => trivial
  | some _, some _, some _, h, k => ⟨h.1.trans k.1, h.2.1.trans k.2.1, h.2.2.1.trans k.2.2.1, fun z => (h.2.2.2 z).trans (k.2.2.2 z)⟩
  | none, none, some _, _, k => k.elim
  | none, some _, _, h, _ => h.elim
  | some _, none, _, h, _ => h.elim
  | some _, some _, none, _, k => k.elim
theorem Bs.like_up {x : Bool} : ∀ {a b : Bs}, a.like b → a.likeB x b
  | none, none, _ => trivial
  | some _, some _, h => ⟨h.1, h.2.1, h.2.2.1, fun _ => h.2.2.2 rfl⟩
  | none, some _, h => h.elim
  | some _, none, h => h.elim
theorem Bs.like_bagAt {x : Bool} : ∀ {a b : Bs}, a.likeB x b → a.bagAt = b.bagAt
  | none, none, _ => rfl
  | some _, some _, h => by show some _ = some _; rw [h.1]
  | none, some _, h => h.elim
  | some _, none, h => h.elim
theorem Bs.like_at {x : Bool} {a b : Bs} (h : a.likeB x b) : a.hit = b.hit := by
  funext z
  unfold Bs.hit
  rw [Bs.like_bagAt h]
abbrev M (α : Type) := Bs → Option (α × Bs)
def M.ret {α : Type} (a : α) : M α := fun b => some (a, b)
def M.bind {α β : Type} (m : M α) (f : α → M β) : M β := fun b => match m b with | some (a, b') => f a b' | none => none
def M.fail {α : Type} : M α := fun _ => none
def M.of {α : Type} : Option α → M α
  | some a => M.ret a
  | none => M.fail
def M.guard {α : Type} (c : Bool) (m : M α) : M α := if c = true then m else M.fail
theorem M.bind_some {α β : Type} {m : M α} {f : α → M β} {b : Bs} {r : β × Bs} (h : M.bind m f b = some r) : ∃ a b', m b = some (a, b') ∧ f a b' = some r := by
  unfold M.bind at h
  split at h
  · exact ⟨_, _, by assumption, h⟩
  · cases h
theorem M.bind_eq {α β : Type} {m : M α} {f : α → M β} {b b' : Bs} {a : α} (h : m b = some (a, b')) : M.bind m f b = f a b' := by
  unfold M.bind
  rw [h]
@[simp] theorem M.ret_bind {α β : Type} (a : α) (f : α → M β) : M.bind (M.ret a) f = f a := rfl
@[simp] theorem M.fail_bind {α β : Type} (f : α → M β) : M.bind M.fail f = M.fail := rfl
@[simp] theorem M.bind_ret {α : Type} (m : M α) : M.bind m M.ret = m := by
  funext b; unfold M.bind M.ret; cases h : m b with
  | none => rfl
  | some r => rfl
@[simp] theorem M.bind_assoc {α β γ : Type} (m : M α) (f : α → M β) (g : β → M γ) : M.bind (M.bind m f) g = M.bind m fun a => M.bind (f a) g := by
  funext b; unfold M.bind; cases h : m b with
  | none => rfl
  | some r => rfl
@[simp] theorem M.guard_true {α : Type} (m : M α) : M.guard true m = m := rfl
theorem M.guard_of {α : Type} {c : Bool} {m : M α} (h : c = true) : M.guard c m = m := if_pos h
@[simp] theorem M.of_some {α : Type} (a : α) : M.of (some a) = M.ret a := rfl
structure NxtB (x : Bool) (G H : Hp) (b : Bs) (G' H' : Hp) (b' : Bs) : Prop where
  gg : Same G G'
  fz : SameF G' H'
  keepB : ∀ a o, H a = some o → ¬ b.hit a → (x = true → ∀ k, G a ≠ some (ghost k)) → H' a = some o
  new : ∀ a o, H a = some o → G a = none → G' a = none
  bag : BagOk G' H' b'
  like : b.likeB x b'
abbrev Nxt (G H : Hp) (b : Bs) (G' H' : Hp) (b' : Bs) : Prop := NxtB false G H b G' H' b'
theorem NxtB.keep {G H G' H' : Hp} {b b' : Bs} (n : Nxt G H b G' H' b') (a : Addr) (o : HO) (h : H a = some o) (nb : ¬ b.hit a) : H' a = some o := n.keepB a o h nb fun z => nomatch z
theorem NxtB.mk' {G H G' H' : Hp} {b b' : Bs} (gg : Same G G') (fz : SameF G' H') (keep : ∀ a o, H a = some o → ¬ b.hit a → H' a = some o) (new : ∀ a o, H a = some o → G a = none → G' a = none) (bag : BagOk G' H' b') (like : b.like b') : Nxt G H b G' H' b' :=
  ⟨gg, fz, fun a o h nb _ => keep a o h nb, new, bag, like⟩
theorem NxtB.upB {x : Bool} {G H G' H' : Hp} {b b' : Bs} (n : Nxt G H b G' H' b') : NxtB x G H b G' H' b' := ⟨n.gg, n.fz, fun a o h nb _ => n.keep a o h nb, n.new, n.bag, Bs.like_up n.like⟩
theorem NxtB.refl {x : Bool} {G H : Hp} {b : Bs} (f : SameF G H) (o : BagOk G H b) : NxtB x G H b G H b := ⟨fun _ _ h => h, f, fun _ _ h _ _ => h, fun _ _ _ h => h, o, b.like_refl⟩
theorem Nxt.refl {G H : Hp} {b : Bs} (f : SameF G H) (o : BagOk G H b) : Nxt G H b G H b := NxtB.refl f o
theorem no_ghost {G H G' : Hp} {a : Addr} {o : HO} (gg : Same G G') (new : ∀ a o, H a = some o → G a = none → G' a = none) (h : H a = some o) (g : ∀ k, G a ≠ some (ghost k)) (k : Nat) : G' a ≠ some (ghost k) := fun z => by
  cases e : G a with
  | none => rw [new a o h e] at z; cases z
  | some u => rw [gg a u e] at z; cases z; exact g k e
theorem NxtB.trans {x : Bool} {G H G1 H1 G2 H2 : Hp} {b b1 b2 : Bs} (m : NxtB x G H b G1 H1 b1) (y : NxtB x G1 H1 b1 G2 H2 b2) : NxtB x G H b G2 H2 b2 where
  gg := fun a o h => y.gg a o (m.gg a o h)
  fz := y.fz
  keepB := fun a o h n g => y.keepB a o (m.keepB a o h n g) (by rw [← Bs.like_at m.like]; exact n) fun z => no_ghost m.gg m.new h (g z)
  new := fun a o h n => by
    by_cases e : b.hit a
    · have l := Bs.like_trans m.like y.like
      have e2 : b2.hit a := by rw [← Bs.like_at l]; exact e
      exact y.bag.hitG e2
    · exact y.new a o (m.keepB a o h e fun _ k z => by rw [n] at z; cases z) (m.new a o h n)
  bag := y.bag
  like := Bs.like_trans m.like y.like
theorem gnone {G H : Hp} {p : Addr} (f : SameF G H) (hp : H p = none) : G p = none := by
  cases e : G p with
  | none => rfl
  | some u => exact absurd hp (frOk_ne (f p u e))
theorem BagP.ext {G H G' H' : Hp} {b : Bs} (ob : BagP G H b) (g : ∀ a, b.bagAt = some a → G' a = none) (gs : ∀ a o, G a = some o → G' a = some o) (e : ∀ a, b.bagAt = some a → H' a = H a)
    (gi : ∀ a k, G' a = some (ghost k) → G a = some (ghost k)) (ec : ∀ a k, G a = some (ghost k) → H' a = H a) : BagP G' H' b := by
  cases b with
  | none => exact fun a k z => ob a k (gi a k z)
  | some g0 =>
    obtain ⟨h1, h2, h3, h4⟩ := ob
    exact ⟨g _ rfl, by rw [e _ rfl]; exact h2, gs _ _ h3, h4.ext gs gi ec⟩
theorem upd_ghost {G : Hp} {p a : Addr} {o : HO} {k : Nat} (ho : ∀ k, o ≠ ghost k) (z : upd G p o a = some (ghost k)) : G a = some (ghost k) := by
  by_cases e : a = p
  · subst e; rw [upd_same] at z; exact absurd (Option.some.inj z) (ho k)
  · rwa [upd_ne e] at z
theorem BagOk.newF {G H : Hp} {b : Bs} {p : Addr} {o : HO} (ob : BagOk G H b) (f : SameF G H) (hp : H p = none) (ho : ∀ k, o ≠ ghost k := by intro k z; cases z) : BagOk (upd G p o) (upd H p o) b := by
  refine ⟨ob.1.ext (fun a z => ?_) (fun a u h => ?_) (fun a z => ?_) (fun a k z => upd_ghost ho z) (fun a k z => ?_), ob.2.ext (fun q hq => ?_) fun a u h => ?_⟩
  · obtain ⟨u, hu⟩ := ob.hitH (.inl z)
    rw [upd_ne (ne_of_none hu hp)]; exact ob.hitG (.inl z)
  · rw [upd_ne (ne_of_none h (gnone f hp))]; exact h
  · obtain ⟨u, hu⟩ := ob.hitH (.inl z)
    rw [upd_ne (ne_of_none hu hp)]
  · obtain ⟨u, hu⟩ := ob.1.ne z
    rw [upd_ne (ne_of_none hu hp)]
  · obtain ⟨u, hu⟩ := ob.2.ne hq
    rw [upd_ne (ne_of_none hu hp)]; exact (ob.2 q hq).1
  · rw [upd_ne (ne_of_none h hp)]; exact h
theorem BagOk.newH {G H : Hp} {b : Bs} {p : Addr} {o : HO} (ob : BagOk G H b) (hp : H p = none) : BagOk G (upd H p o) b := by
  refine ⟨ob.1.ext (fun a z => ob.hitG (.inl z)) (fun a u h => h) (fun a z => ?_) (fun a k z => z) (fun a k z => ?_), ob.2.ext (fun q hq => (ob.2 q hq).1) fun a u h => ?_⟩
  · obtain ⟨u, hu⟩ := ob.hitH (.inl z)
    rw [upd_ne (ne_of_none hu hp)]
  · obtain ⟨u, hu⟩ := ob.1.ne z
    rw [upd_ne (ne_of_none hu hp)]
  · rw [upd_ne (ne_of_none h hp)]; exact h
theorem BagOk.frz {G H : Hp} {b : Bs} {p : Addr} {o : HO} (ob : BagOk G H b) (nb : ¬ b.hit p) (gp : G p = none) (ho : ∀ k, o ≠ ghost k := by intro k z; cases z) : BagOk (upd G p o) H b := by
  refine ⟨ob.1.ext (fun a z => ?_) (fun a u h => ?_) (fun a z => rfl) (fun a k z => upd_ghost ho z) (fun a k z => rfl), ob.2.ext (fun q hq => ?_) fun a u h => h⟩
  · rw [upd_ne fun e => nb (by rw [← e]; exact .inl z)]; exact ob.hitG (.inl z)
  · rw [upd_ne (ne_of_none h gp)]; exact h
  · rw [upd_ne fun e => nb (.inr ⟨q.2, by rw [← e]; exact hq⟩)]; exact (ob.2 q hq).1
theorem BagOk.mut {G H : Hp} {b : Bs} {p : Addr} {o : HO} (ob : BagOk G H b) (nb : ¬ b.hit p) (nc : ∀ c q, H p ≠ some (LamX.CodeO c q)) (gp : G p = none) : BagOk G (upd H p o) b := by
  refine ⟨ob.1.ext (fun a z => ob.hitG (.inl z)) (fun a u h => h) (fun a z => ?_) (fun a k z => z) (fun a k z => ?_), fun q hq => ⟨(ob.2 q hq).1, TabS.mut (ob.2 q hq).2 (fun e => ?_) nc⟩⟩
  · rw [upd_ne fun e => nb (by rw [← e]; exact .inl z)]
  · rw [upd_ne (ne_of_none z gp)]
  · exact nb (.inr ⟨q.2, by rw [← e]; exact hq⟩)
theorem SameF.newF {G H : Hp} {p : Addr} {o : HO} (f : SameF G H) : SameF (upd G p o) (upd H p o) := fun a u h => by
  by_cases e : a = p
  · subst e; rw [upd_same] at h ⊢; exact frOk_of h
  · rw [upd_ne e] at h ⊢; exact f a u h
theorem SameF.newH {G H : Hp} {p : Addr} {o : HO} (f : SameF G H) (gp : G p = none) : SameF G (upd H p o) := fun a u h => by
  rw [upd_ne (ne_of_none h gp)]; exact f a u h
theorem SameF.frz {G H : Hp} {p : Addr} {o : HO} (f : SameF G H) (hp : H p = some o) : SameF (upd G p o) H := fun a u h => by
  by_cases e : a = p
  · subst e; rw [upd_same] at h; cases h; exact frOk_of hp
  · rw [upd_ne e] at h; exact f a u h
theorem Nxt.newF {G H : Hp} {b : Bs} {p : Addr} {o : HO} (f : SameF G H) (ob : BagOk G H b) (hp : H p = none) (ho : ∀ k, o ≠ ghost k := by intro k z; cases z) : Nxt G H b (upd G p o) (upd H p o) b := by
  have gp := gnone f hp
  refine .mk' (fun a u h => ?_) f.newF (fun a u h _ => ?_) (fun a u h n => ?_) (ob.newF f hp ho) b.like_refl
  · rw [upd_ne (ne_of_none h gp)]; exact h
  · rw [upd_ne (ne_of_none h hp)]; exact h
  · rw [upd_ne (ne_of_none h hp)]; exact n
theorem Nxt.newH {G H : Hp} {b : Bs} {p : Addr} {o : HO} (f : SameF G H) (ob : BagOk G H b) (hp : H p = none) : Nxt G H b G (upd H p o) b := by
  refine .mk' (fun a u h => h) (f.newH (gnone f hp)) (fun a u h _ => ?_) (fun a u h n => n) (ob.newH hp) b.like_refl
  rw [upd_ne (ne_of_none h hp)]; exact h
abbrev Env := List (Option D)
structure RS (K : PySem.W.Frag) (G : Hp) (σ : L2.St) (ρ : Env) : Prop where
  len : ρ.length ≤ σ.length
  get : ∀ (i : Nat) (d : D), ρ[i]? = some (some d) → ∃ v, σ[i]? = some (some v) ∧ Rp K G v d
theorem RS.mono {K : PySem.W.Frag} {G G' : Hp} {σ : L2.St} {ρ : Env} (e : Same G G') (h : RS K G σ ρ) : RS K G' σ ρ := ⟨h.len, fun i d q => by
  obtain ⟨v, h1, h2⟩ := h.get i d q
  exact ⟨v, h1, h2.mono e⟩⟩
theorem bag_ne {G H : Hp} {b : Bs} {p : Addr} (ob : BagOk G H b) (hp : H p = none) : ¬ b.hit p := fun z => by
  obtain ⟨o, h⟩ := ob.hitH z
  rw [hp] at h
  cases h
theorem codeO_ne {c : Addr} {q : Str} {u : HO} (h : ∀ φ, u ≠ .ext φ) : u ≠ LamX.CodeO c q := fun z => by
  unfold LamX.CodeO at z
  exact h _ z
theorem get?_rep (n : Nat) (ob : Obj) (hd : ob.data ≠ .freed) {a : Addr} {o : Obj} (h : ({ objs := Array.replicate n ob } : Heap).get? a = some o) : o = ob := by
  unfold Heap.get? at h
  by_cases ha : a < n
  · have e : ({ objs := Array.replicate n ob } : Heap).objs[a]? = some ob := by
      show (Array.replicate n ob)[a]? = some ob
      simp [ha]
    rw [e] at h
    split at h
    · cases h
    · exact (Option.some.inj h).symm
  · have e : ({ objs := Array.replicate n ob } : Heap).objs[a]? = none := by
      show (Array.replicate n ob)[a]? = none
      simp [ha]
    rw [e] at h
    cases h
theorem rep_get? (n : Nat) (ob : Obj) (hd : ob.data ≠ .freed) {a : Addr} (ha : a < n) : ({ objs := Array.replicate n ob } : Heap).get? a = some ob := by
  unfold Heap.get?
  have e : ({ objs := Array.replicate n ob } : Heap).objs[a]? = some ob := by
    show (Array.replicate n ob)[a]? = some ob
    simp [ha]
  rw [e]
  split
  · rename_i z
    have z2 := Option.some.inj z
    rw [z2] at hd
    exact absurd rfl hd
  · rfl
theorem ext_ne {φ : Heap → Prop} {c : Addr} {q : Str} (h : ∀ hp, φ hp → ∃ a o, hp.get? a = some o ∧ ∀ vs, o.data ≠ .fields vs) : HO.ext φ ≠ LamX.CodeO c q := fun z => by
  unfold LamX.CodeO at z
  have e := HO.ext.inj z
  let ob : Obj := { cls := .none, data := .fields #[.none, .str q default] }
  have hd : ob.data ≠ .freed := fun z => by cases z
  have p : φ { objs := Array.replicate (c + 1) ob } := by
    rw [e]
    exact ⟨ob, _, default, rep_get? _ ob hd (Nat.lt_succ_self c), rfl, rfl⟩
  obtain ⟨a, o, h1, h2⟩ := h _ p
  have := get?_rep _ ob hd h1
  subst this
  exact h2 _ rfl
theorem nc_of {H : Hp} {p : Addr} {u : HO} (h : H p = some u) (hu : ∀ φ, u ≠ .ext φ := by intro φ z; cases z) : ∀ c q, H p ≠ some (LamX.CodeO c q) := fun c q z => by
  rw [h] at z
  exact codeO_ne hu (Option.some.inj z)
theorem NxtB.mut {x : Bool} {G H G' H' : Hp} {b b' : Bs} {p : Addr} {o : HO} (n : NxtB x G H b G' H' b') (ob : BagOk G H b) (hp : H p = none) (gp : G' p = none) (nc : ∀ c q, H' p ≠ some (LamX.CodeO c q)) : NxtB x G H b G' (upd H' p o) b' := by
  have nb : ¬ b'.hit p := by rw [← Bs.like_at n.like]; exact bag_ne ob hp
  refine ⟨n.gg, n.fz.newH gp, fun a u h hb g => ?_, n.new, n.bag.mut nb nc gp, n.like⟩
  rw [upd_ne (ne_of_none h hp)]; exact n.keepB a u h hb g
theorem NxtB.free {x : Bool} {G H G' H' : Hp} {b b' : Bs} {p : Addr} (n : NxtB x G H b G' H' b') (hp : H' p = none) : H p = none := by
  cases e : H p with
  | none => rfl
  | some o =>
    by_cases z : b.hit p
    · have z2 : b'.hit p := by rw [← Bs.like_at n.like]; exact z
      obtain ⟨u, hu⟩ := n.bag.hitH z2
      rw [hu] at hp; cases hp
    · by_cases g : ∃ k, G p = some (ghost k)
      · obtain ⟨k, g⟩ := g
        obtain ⟨u, hu⟩ := n.bag.1.ne (n.gg _ _ g)
        rw [hu] at hp; cases hp
      · rw [n.keepB p o e z fun _ k y => g ⟨k, y⟩] at hp; cases hp
theorem NxtB.stayC {G H G' H' : Hp} {b b' : Bs} (n : Nxt G H b G' H' b') (ob : BagOk G H b) {a : Addr} {k : Nat} (h : G a = some (ghost k)) : H' a = H a := by
  obtain ⟨o, e⟩ := ob.1.ne h
  rw [n.keep a o e (fun z => by rw [ob.hitG z] at h; cases h), e]
def tF (K : PySem.W.Frag) (f : Env → M D) : TE := fun σ H Q => ∃ ρ G b d b', RS K G σ ρ ∧ SameF G H ∧ BagOk G H b ∧ f ρ b = some (d, b') ∧
  ∀ v G' H', Nxt G H b G' H' b' → Rp K G' v d → Q v H'
def tFT (K : PySem.W.Frag) (f : Env → M Bool) : TT := fun σ H Q => ∃ ρ G b d b', RS K G σ ρ ∧ SameF G H ∧ BagOk G H b ∧ f ρ b = some (d, b') ∧
  ∀ G' H', Nxt G H b G' H' b' → Q d H'
def tFA (K : PySem.W.Frag) (f : Env → M (List D)) : TA := fun σ H Q => ∃ ρ G b ds b', RS K G σ ρ ∧ SameF G H ∧ BagOk G H b ∧ f ρ b = some (ds, b') ∧
  ∀ vs G' H', Nxt G H b G' H' b' → RpL K G' vs ds → Q vs H'
def tN (K : PySem.W.Frag) (f : Env → M (List D)) : TE := fun σ H Q => ∃ ρ G b ds b', RS K G σ ρ ∧ SameF G H ∧ BagOk G H b ∧ f ρ b = some (ds, b') ∧
  ∀ p vs G' H', Nxt G H b G' H' b' → H p = none → G' p = none → H' p = some (.lst vs) → RpL K G' vs ds → Q (.ref p) H'
abbrev DE (X : Cx) (e : Expr) (f : Env → M D) : Prop := PE X e (tF X.K f)
abbrev DN (X : Cx) (e : Expr) (f : Env → M (List D)) : Prop := PE X e (tN X.K f)
abbrev DT (X : Cx) (e : Expr) (f : Env → M Bool) : Prop := PT X e (tFT X.K f)
abbrev DA (X : Cx) (es : List Expr) (f : Env → M (List D)) : Prop := PA X es (tFA X.K f)
theorem PEimp {X : Cx} {e : Expr} {t t' : TE} (h : PE X e t) (i : ∀ σ H Q, t' σ H Q → t σ H Q) : PE X e t' := ⟨fun pins s σ H Q I q => h.run pins s σ H Q I (i σ H Q q)⟩
theorem PTimp {X : Cx} {e : Expr} {t t' : TT} (h : PT X e t) (i : ∀ σ H Q, t' σ H Q → t σ H Q) : PT X e t' := ⟨fun pins s σ H Q I q => h.run pins s σ H Q I (i σ H Q q)⟩
theorem PAimp {X : Cx} {e : List Expr} {t t' : TA} (h : PA X e t) (i : ∀ σ H Q, t' σ H Q → t σ H Q) : PA X e t' := ⟨fun pos pins s σ H Q I q => h.run pos pins s σ H Q I (i σ H Q q)⟩
section
variable {X : Cx}
def rdEnv (i : Nat) (ρ : Env) : M D := match ρ[i]? with
  | some (some d) => M.ret d
  | _ => M.fail
theorem rdEnv_some {i : Nat} {ρ : Env} {b b' : Bs} {d : D} (h : rdEnv i ρ b = some (d, b')) : ρ[i]? = some (some d) ∧ b = b' := by
  unfold rdEnv at h
  cases e : ρ[i]? with
  | none => rw [e] at h; cases h
  | some o =>
    cases o with
    | none => rw [e] at h; cases h
    | some z => rw [e] at h; cases h; exact ⟨rfl, rfl⟩
theorem dv (i : Nat) {x : Str} {pos : Pos} (hN : X.N[i]? = some x := by rfl) (hv : Vis X.env.scope x := by first | exact Or.inl rfl | exact Or.inr (Or.inl rfl) | exact Or.inr (Or.inr rfl)) (hd : (x == ("__debug__" : Str)) = false := by decide)
    (hcd : (x == ("__classdict__" : Str)) = false := by decide) : DE X (.Name x pos) (rdEnv i) := by
  refine PEimp (pe_var (pos := pos) hN hv hd hcd) ?_
  rintro σ H Q ⟨ρ, G, b, d, b', r, f, o, e, q⟩
  obtain ⟨hd', rfl⟩ := rdEnv_some e
  obtain ⟨v, h1, h2⟩ := r.get i _ hd'
  exact ⟨v, h1, q v G H (Nxt.refl f o) h2⟩
theorem d_c {e : Expr} {v : V} {d : D} (h : PE X e (tC v)) (r : ∀ G, Rp X.K G v d) : DE X e (fun _ => M.ret d) := by
  refine PEimp h ?_
  rintro σ H Q ⟨ρ, G, b, d', b', _, f, o, e, q⟩
  cases e
  exact q v G H (Nxt.refl f o) (r G)
theorem d_int {i : Int} {j pos} : DE X (.Constant (.int i) j pos) (fun _ => M.ret (.int i)) := d_c pe_int fun _ => .int i
theorem d_bl {b : Bool} {j pos} : DE X (.Constant (.bool b) j pos) (fun _ => M.ret (.bl b)) := d_c pe_bl fun _ => .bl b
theorem d_non {j pos} : DE X (.Constant .none j pos) (fun _ => M.ret .non) := d_c pe_non fun _ => .non
theorem d_str {x : Str} {j pos} (l : List Nat) (h : x = ⟨l.toArray⟩ := by rfl) : DE X (.Constant (.str x) j pos) (fun _ => M.ret (.str l)) := d_c pe_str fun _ => by rw [h]; exact .str l
end
def SndR (K : PySem.W.Frag) (r : R2) (g : D → D → M D) : Prop := ∀ G H b x y dx dy d b' Q, Rp K G x dx → Rp K G y dy → SameF G H → BagOk G H b → g dx dy b = some (d, b') →
  (∀ v G' H', Nxt G H b G' H' b' → Rp K G' v d → Q v H') → r x y H Q
theorem two {K : PySem.W.Frag} {r : R2} {f g : Env → M D} {h : D → D → M D} (hs : SndR K r h) : ∀ σ H Q, tF K (fun ρ => M.bind (f ρ) fun x => M.bind (g ρ) fun y => h x y) σ H Q → tOp r (tF K f) (tF K g) σ H Q := by
  rintro σ H Q ⟨ρ, G, b, d, b', rs, fz, ob, e, q⟩
  obtain ⟨x, b1, e1, e⟩ := M.bind_some e
  obtain ⟨y, b2, e2, e3⟩ := M.bind_some e
  refine ⟨ρ, G, b, x, b1, rs, fz, ob, e1, fun v1 G1 H1 n1 r1 => ?_⟩
  refine ⟨ρ, G1, b1, y, b2, rs.mono n1.gg, n1.fz, n1.bag, e2, fun v2 G2 H2 n2 r2 => ?_⟩
  exact hs G2 H2 b2 v1 v2 x y d b' Q (r1.mono n2.gg) r2 n2.fz n2.bag e3 fun v G' H' n3 r3 => q v G' H' ((n1.trans n2).trans n3) r3
section
variable {X : Cx} {a b : Expr} {f g : Env → M D} {h : D → D → M D} {r : R2} {pos : Pos}
theorem d_op {op : Operator} (ho : OpR X (binaryOp op) r) (hs : SndR X.K r h) (ha : DE X a f) (hb : DE X b g) : DE X (.BinOp a op b pos) (fun ρ => M.bind (f ρ) fun x => M.bind (g ρ) fun y => h x y) :=
  PEimp (pe_op ho ha hb) (two hs)
theorem d_cmp {op : CmpOp} (ho : OpR X (compareOp op) r) (hs : SndR X.K r h) (ha : DE X a f) (hb : DE X b g) (hm : behindInMarks op b = false) : DE X (.Compare a [op] [b] pos) (fun ρ => M.bind (f ρ) fun x => M.bind (g ρ) fun y => h x y) :=
  PEimp (pe_cmpR ho ha hb hm) (two hs)
theorem d_ix0 (ho : IxR X r) (hs : SndR X.K r h) (ha : DE X a f) (hb : DE X b g) (hp : PlainIx b) : DE X (.Subscript a b pos) (fun ρ => M.bind (f ρ) fun x => M.bind (g ρ) fun y => h x y) :=
  PEimp (pe_ix ho ha hb hp) (two hs)
def asB : D → M Bool
  | .bl b => M.ret b
  | _ => M.fail
theorem asB_some {z : D} {b b' : Bs} {k : Bool} (h : asB z b = some (k, b')) : z = .bl k ∧ b = b' := by
  cases z <;> first | (cases h; done) | (cases h; exact ⟨rfl, rfl⟩)
theorem t_cmp {op : CmpOp} (ho : OpR X (compareOp op) r) (hs : SndR X.K r h) (ha : DE X a f) (hb : DE X b g) (hm : behindInMarks op b = false) : DT X (.Compare a [op] [b] pos) (fun ρ => M.bind (f ρ) fun x => M.bind (g ρ) fun y => M.bind (h x y) asB) := by
  refine PTimp (pt_cmpR ho ha hb hm) ?_
  rintro σ H Q ⟨ρ, G, b, d, b', rs, fz, ob, e, q⟩
  obtain ⟨x, b1, e1, e⟩ := M.bind_some e
  obtain ⟨y, b2, e2, e⟩ := M.bind_some e
  obtain ⟨z, b3, e3, e4⟩ := M.bind_some e
  refine two hs σ H _ ⟨ρ, G, b, z, b3, rs, fz, ob, ?_, fun v G' H' n rz => ?_⟩
  · show M.bind (f ρ) (fun x => M.bind (g ρ) fun y => h x y) b = _
    rw [M.bind_eq e1, M.bind_eq e2]; exact e3
  · obtain ⟨rfl, rfl⟩ := asB_some e4
    cases rz
    exact ⟨_, rfl, q G' H' n⟩
end
end DL
set_option Elab.async false
set_option maxRecDepth 100000
set_option autoImplicit false
set_option maxHeartbeats 4000000
namespace DL
open PySem L2
variable [TAB : TabList]
variable [EFF : Eff]
set_option linter.unusedSectionVars false
section
variable {X : Cx}
theorem da_nil : DA X [] (fun _ => M.ret []) := by
  refine PAimp pa_nil ?_
  rintro σ H Q ⟨ρ, G, b, d, b', r, f, o, e, q⟩
  cases e
  exact q [] G H (Nxt.refl f o) .nil
theorem cons_f {K : PySem.W.Frag} {f : Env → M D} {g : Env → M (List D)} : ∀ σ H Q, tFA K (fun ρ => M.bind (f ρ) fun x => M.bind (g ρ) fun xs => M.ret (x :: xs)) σ H Q → tCons (tF K f) (tFA K g) σ H Q := by
  rintro σ H Q ⟨ρ, G, b, d, b', rs, fz, ob, e, q⟩
  obtain ⟨x, b1, e1, e⟩ := M.bind_some e
  obtain ⟨xs, b2, e2, e3⟩ := M.bind_some e
  cases e3
  refine ⟨ρ, G, b, x, b1, rs, fz, ob, e1, fun v G1 H1 n1 r1 => ?_⟩
  refine ⟨ρ, G1, b1, xs, b', rs.mono n1.gg, n1.fz, n1.bag, e2, fun vs G2 H2 n2 r2 => ?_⟩
  exact q (v :: vs) G2 H2 (n1.trans n2) (.cons (r1.mono n2.gg) r2)
theorem da_cons {e : Expr} {es : List Expr} {f : Env → M D} {g : Env → M (List D)} (ha : DE X e f) (hr : DA X es g) (hs : starEach (e :: es) X.env = (false, eval e X.env) :: starEach es X.env := by rfl) :
    DA X (e :: es) (fun ρ => M.bind (f ρ) fun x => M.bind (g ρ) fun xs => M.ret (x :: xs)) := PAimp (pa_cons ha hr hs) cons_f
theorem dn_f {K : PySem.W.Frag} {f : Env → M (List D)} : ∀ σ H Q, tF K (fun ρ => M.bind (f ρ) fun xs => M.ret (.lst xs)) σ H Q → tN K f σ H Q := by
  rintro σ H Q ⟨ρ, G, b, d, b', rs, fz, ob, e, q⟩
  obtain ⟨xs, b1, e1, e2⟩ := M.bind_some e
  cases e2
  refine ⟨ρ, G, b, xs, b', rs, fz, ob, e1, fun p vs G' H' n hp gp hh r => ?_⟩
  have sg : Same G' (upd G' p (.lst vs)) := fun a o h => by rw [upd_ne (ne_of_none h gp)]; exact h
  refine q (.ref p) (upd G' p (.lst vs)) H' (.mk' (fun a o h => sg a o (n.gg a o h)) (n.fz.frz hh) n.keep (fun a o h hn => ?_) ?_ n.like) (.lst upd_same (r.mono sg))
  · rw [upd_ne (ne_of_none h hp)]; exact n.new a o h hn
  · exact n.bag.frz (by rw [← Bs.like_at n.like]; exact bag_ne ob hp) gp
theorem d_n {e : Expr} {f : Env → M (List D)} (h : DN X e f) : DE X e (fun ρ => M.bind (f ρ) fun xs => M.ret (.lst xs)) := PEimp h dn_f
def szL (xs : List D) : Bool := decide (xs.length ≤ sizeLine)
theorem M.guard_some {α : Type} {c : Bool} {m : M α} {b : Bs} {r : α × Bs} (h : M.guard c m b = some r) : c = true ∧ m b = some r := by
  unfold M.guard at h
  cases c with
  | true => exact ⟨rfl, h⟩
  | false => cases h
theorem dn_lst {es : List Expr} {pos : Pos} {g : Env → M (List D)} (h : DA X es g) : DN X (.List es pos) (fun ρ => M.bind (g ρ) fun xs => M.guard (szL xs) (M.ret xs)) := by
  refine PEimp (pe_lst h) ?_
  rintro σ H Q ⟨ρ, G, b, d, b', rs, fz, ob, e, q⟩
  obtain ⟨xs, b1, e1, e2⟩ := M.bind_some e
  obtain ⟨c, e3⟩ := M.guard_some e2
  cases e3
  refine ⟨ρ, G, b, d, b', rs, fz, ob, e1, fun vs G' H' n r => ⟨by rw [r.length]; exact of_decide_eq_true c, fun p hp => ?_⟩⟩
  have h0 : H p = none := n.free hp
  exact q p vs G' _ (n.trans (Nxt.newH n.fz n.bag hp)) h0 (gnone n.fz hp) upd_same r
theorem d_tup {es : List Expr} {k : Nat} {pos : Pos} {g : Env → M (List D)} (h : DA X es g) : DE X (.Tuple es k pos) (fun ρ => M.bind (g ρ) fun xs => M.guard (szL xs) (M.ret (.tup xs))) := by
  refine PEimp (pe_tup h) ?_
  rintro σ H Q ⟨ρ, G, b, d, b', rs, fz, ob, e, q⟩
  obtain ⟨xs, b1, e1, e2⟩ := M.bind_some e
  obtain ⟨c, e3⟩ := M.guard_some e2
  cases e3
  refine ⟨ρ, G, b, xs, b', rs, fz, ob, e1, fun vs G' H' n r => ⟨by rw [r.length]; exact of_decide_eq_true c, fun p hp => ?_⟩⟩
  have m := Nxt.newF (o := .tup vs) n.fz n.bag hp
  exact q (.ref p) _ _ (n.trans m) (.tup (SqT.of upd_same) (r.mono m.gg))
def truD : D → M Bool
  | .non => M.ret false
  | .bl b => M.ret b
  | .int i => M.ret (i != 0)
  | .str x => M.guard (decide (x.length ≤ sizeLine)) (M.ret (!x.isEmpty))
  | .lst xs => M.ret (!xs.isEmpty)
  | .tup xs => M.ret (!xs.isEmpty)
  | _ => M.fail
theorem RpL.empty {K : PySem.W.Frag} {G : Hp} {vs : List V} {ds : List D} (r : RpL K G vs ds) : vs.isEmpty = ds.isEmpty := by
  cases r <;> rfl
theorem t_val {e : Expr} {f : Env → M D} (h : DE X e f) (he : ∀ whole, isTrue e X.env whole = (do let v ← whole; standAt e.pos; holding [v] (truthy v)) := by intro _; rfl) : DT X e (fun ρ => M.bind (f ρ) truD) := by
  refine PTimp (pt_truth h he) ?_
  rintro σ H Q ⟨ρ, G, b, d, b', rs, fz, ob, e, q⟩
  obtain ⟨x, b1, e1, e2⟩ := M.bind_some e
  refine ⟨ρ, G, b, x, b1, rs, fz, ob, e1, fun v G' H' n r => ?_⟩
  cases r with
  | non => cases e2; exact ⟨false, rfl, q _ _ n⟩
  | bl k => cases e2; exact ⟨_, rfl, q _ _ n⟩
  | int i => cases e2; exact ⟨_, rfl, q _ _ n⟩
  | str x =>
    obtain ⟨c, e3⟩ := M.guard_some e2
    cases e3
    refine ⟨_, ⟨of_decide_eq_true c, ?_⟩, q _ _ n⟩
    show _ = (((⟨x.toArray⟩ : Str).length : Int) != 0)
    cases x with
    | nil => rfl
    | cons c l => rfl
  | lst h1 h2 => cases e2; exact ⟨_, .inl ⟨_, SqL.of (n.fz _ _ h1), by rw [h2.empty]⟩, q _ _ n⟩
  | tup h1 h2 => cases e2; exact ⟨_, .inr (.inl ⟨_, SameF.sqt n.fz h1, by rw [h2.empty]⟩), q _ _ n⟩
  | dct h1 h2 h3 => cases e2
  | dcT h1 h2 h3 => cases e2
  | obj h0 h1 h2 h3 => cases e2
  | bag p => cases e2
  | scr h => cases e2
  | exc _ _ => cases e2
  | clo _ _ _ _ => cases e2
  | cel _ => cases e2
theorem t_not {e : Expr} {pos : Pos} {f : Env → M Bool} (h : DT X e f) : DT X (.UnaryOp .Not e pos) (fun ρ => M.bind (f ρ) fun k => M.ret (!k)) := by
  refine PTimp (pt_not h) ?_
  rintro σ H Q ⟨ρ, G, b, d, b', rs, fz, ob, e, q⟩
  obtain ⟨x, b1, e1, e2⟩ := M.bind_some e
  cases e2
  exact ⟨ρ, G, b, x, b', rs, fz, ob, e1, fun G' H' n => q _ _ n⟩
abbrev DW (X : Cx) (e : Expr) (f : Env → M Bool) : Prop := PW X e (tFT X.K f)
theorem PWimp {e : Expr} {t t' : TT} (h : PW X e t) (i : ∀ σ H Q, t' σ H Q → t σ H Q) : PW X e t' := ⟨fun whole pins s σ H Q I q => h.run whole pins s σ H Q I (i σ H Q q)⟩
variable {a b : Expr} {rest : List Expr} {pos : Pos}
theorem w_and1 {f : Env → M Bool} (ha : DT X a f) : DW X (.BoolOp .And [a] pos) f := pw_and1 ha
theorem w_or1 {f : Env → M Bool} (ha : DT X a f) : DW X (.BoolOp .Or [a] pos) f := pw_or1 ha
theorem w_and {f g : Env → M Bool} (ha : DT X a f) (hb : DW X (.BoolOp .And (b :: rest) pos) g) : DW X (.BoolOp .And (a :: b :: rest) pos) (fun ρ => M.bind (f ρ) fun k => if k = true then g ρ else M.ret false) := by
  refine PWimp (pw_and ha hb) ?_
  rintro σ H Q ⟨ρ, G, b, d, b', rs, fz, ob, e, q⟩
  obtain ⟨k, b1, e1, e2⟩ := M.bind_some e
  refine ⟨ρ, G, b, k, b1, rs, fz, ob, e1, fun G1 H1 n1 => ?_⟩
  cases k with
  | true => exact iteT ⟨ρ, G1, b1, d, b', rs.mono n1.gg, n1.fz, n1.bag, e2, fun G2 H2 n2 => q _ _ (n1.trans n2)⟩
  | false => cases e2; exact iteF (q _ _ n1)
theorem w_or {f g : Env → M Bool} (ha : DT X a f) (hb : DW X (.BoolOp .Or (b :: rest) pos) g) : DW X (.BoolOp .Or (a :: b :: rest) pos) (fun ρ => M.bind (f ρ) fun k => if k = true then M.ret true else g ρ) := by
  refine PWimp (pw_or ha hb) ?_
  rintro σ H Q ⟨ρ, G, b, d, b', rs, fz, ob, e, q⟩
  obtain ⟨k, b1, e1, e2⟩ := M.bind_some e
  refine ⟨ρ, G, b, k, b1, rs, fz, ob, e1, fun G1 H1 n1 => ?_⟩
  cases k with
  | true => cases e2; exact iteT (q _ _ n1)
  | false => exact iteF ⟨ρ, G1, b1, d, b', rs.mono n1.gg, n1.fz, n1.bag, e2, fun G2 H2 n2 => q _ _ (n1.trans n2)⟩
theorem t_w {e : Expr} {f : Env → M Bool} (h : DW X e f) : DT X e f := PW.pt h
theorem d_and {f g : Env → M D} (ha : DE X a f) (hb : DE X (.BoolOp .And (b :: rest) pos) g) : DE X (.BoolOp .And (a :: b :: rest) pos) (fun ρ => M.bind (f ρ) fun x => M.bind (asB x) fun k => if k = true then g ρ else M.ret (.bl false)) := by
  refine PEimp (pe_and ha hb) ?_
  rintro σ H Q ⟨ρ, G, b, d, b', rs, fz, ob, e, q⟩
  obtain ⟨x, b1, e1, e2⟩ := M.bind_some e
  obtain ⟨k, b2, e2, e3⟩ := M.bind_some e2
  obtain ⟨rfl, rfl⟩ := asB_some e2
  refine ⟨ρ, G, b, _, b1, rs, fz, ob, e1, fun v G1 H1 n1 r => ?_⟩
  cases r
  refine ⟨k, rfl, ?_⟩
  cases k with
  | true => exact iteT ⟨ρ, G1, b1, d, b', rs.mono n1.gg, n1.fz, n1.bag, e3, fun v2 G2 H2 n2 r2 => q v2 _ _ (n1.trans n2) r2⟩
  | false => cases e3; exact iteF (q _ _ _ n1 (.bl false))
theorem d_one {op : BoolOp} {f : Env → M D} (ha : DE X a f) : DE X (.BoolOp op [a] pos) f := pe_one ha
theorem d_not {f : Env → M D} (ha : DE X a f) : DE X (.UnaryOp .Not a pos) (fun ρ => M.bind (f ρ) fun x => M.bind (asB x) fun k => M.ret (.bl (!k))) := by
  refine PEimp (pe_not ha) ?_
  rintro σ H Q ⟨ρ, G, b, d, b', rs, fz, ob, e, q⟩
  obtain ⟨x, b1, e1, e2⟩ := M.bind_some e
  obtain ⟨k, b2, e2, e3⟩ := M.bind_some e2
  obtain ⟨rfl, rfl⟩ := asB_some e2
  cases e3
  refine ⟨ρ, G, b, _, b', rs, fz, ob, e1, fun v G1 H1 n1 r => ?_⟩
  cases r
  exact ⟨k, rfl, q _ _ _ n1 (.bl _)⟩
theorem d_if {c : Expr} {t : Env → M Bool} {f g : Env → M D} (hc : DT X c t) (ha : DE X a f) (hb : DE X b g) : DE X (.IfExp c a b pos) (fun ρ => M.bind (t ρ) fun k => if k = true then f ρ else g ρ) := by
  refine PEimp (pe_ifExp hc ha hb) ?_
  rintro σ H Q ⟨ρ, G, b, d, b', rs, fz, ob, e, q⟩
  obtain ⟨k, b1, e1, e2⟩ := M.bind_some e
  refine ⟨ρ, G, b, k, b1, rs, fz, ob, e1, fun G1 H1 n1 => ?_⟩
  cases k with
  | true => exact iteT ⟨ρ, G1, b1, d, b', rs.mono n1.gg, n1.fz, n1.bag, e2, fun v G2 H2 n2 r => q _ _ _ (n1.trans n2) r⟩
  | false => exact iteF ⟨ρ, G1, b1, d, b', rs.mono n1.gg, n1.fz, n1.bag, e2, fun v G2 H2 n2 r => q _ _ _ (n1.trans n2) r⟩
end
def SndC (K : PySem.W.Frag) (r : List V → Hp → VK → Prop) (g : List D → M D) : Prop := ∀ G H b vs ds d b' Q, RpL K G vs ds → SameF G H → BagOk G H b → g ds b = some (d, b') →
  (∀ v G' H', Nxt G H b G' H' b' → Rp K G' v d → Q v H') → r vs H Q
def SndCN (K : PySem.W.Frag) (r : List V → Hp → VK → Prop) (g : List D → M (List D)) : Prop := ∀ G H b vs ds xs b' Q, RpL K G vs ds → SameF G H → BagOk G H b → g ds b = some (xs, b') →
  (∀ p ws G' H', Nxt G H b G' H' b' → H p = none → G' p = none → H' p = some (.lst ws) → RpL K G' ws xs → Q (.ref p) H') → r vs H Q
section
variable {X : Cx} {x : Str} {p pos : Pos} {e : Expr} {es : List Expr} {f : Env → M (List D)} {g : List D → M D} {gn : List D → M (List D)} {id T : String} {r : List V → Hp → VK → Prop}
theorem cb_f {K : PySem.W.Frag} (hs : SndC K r g) : ∀ σ H Q, tF K (fun ρ => M.bind (f ρ) g) σ H Q → tCB r (tFA K f) σ H Q := by
  rintro σ H Q ⟨ρ, G, b, d, b', rs, fz, ob, e, q⟩
  obtain ⟨ds, b1, e1, e2⟩ := M.bind_some e
  refine ⟨ρ, G, b, ds, b1, rs, fz, ob, e1, fun vs G1 H1 n1 r1 => ?_⟩
  exact hs G1 H1 b1 vs ds d b' Q r1 n1.fz n1.bag e2 fun v G2 H2 n2 r2 => q v G2 H2 (n1.trans n2) r2
theorem cbn_f {K : PySem.W.Frag} (hs : SndCN K r gn) : ∀ σ H Q, tN K (fun ρ => M.bind (f ρ) gn) σ H Q → tCB r (tFA K f) σ H Q := by
  rintro σ H Q ⟨ρ, G, b, d, b', rs, fz, ob, e, q⟩
  obtain ⟨ds, b1, e1, e2⟩ := M.bind_some e
  refine ⟨ρ, G, b, ds, b1, rs, fz, ob, e1, fun vs G1 H1 n1 r1 => ?_⟩
  exact hs G1 H1 b1 vs ds d b' Q r1 n1.fz n1.bag e2 fun p ws G2 H2 n2 hp gp hh r2 => q p ws G2 H2 (n1.trans n2) (n1.free hp) gp hh r2
theorem d_callB (hc : CallR X (.builtin id) r) (hs : SndC X.K r g) (hg : Gl X x) (hm : X.mg x = none) (hv : bootBuiltins x = some (.builtin id)) (ha : DA X (e :: es) f) (hn : x ≠ "__name__" := by decide) (hdb : (x == ("__debug__" : Str)) = false := by decide)
    (he : starEach (e :: es) X.env = (false, eval e X.env) :: starEach es X.env := by rfl) (hpl : (backTo pos (starEach es X.env)).any (·.1) = false := by rfl) : DE X (.Call (.Name x p) (e :: es) [] pos) (fun ρ => M.bind (f ρ) g) :=
  PEimp (pe_callB hc hg hm hv ha hn hdb he hpl) (cb_f hs)
theorem dn_callB (hc : CallR X (.builtin id) r) (hs : SndCN X.K r gn) (hg : Gl X x) (hm : X.mg x = none) (hv : bootBuiltins x = some (.builtin id)) (ha : DA X (e :: es) f) (hn : x ≠ "__name__" := by decide) (hdb : (x == ("__debug__" : Str)) = false := by decide)
    (he : starEach (e :: es) X.env = (false, eval e X.env) :: starEach es X.env := by rfl) (hpl : (backTo pos (starEach es X.env)).any (·.1) = false := by rfl) : DN X (.Call (.Name x p) (e :: es) [] pos) (fun ρ => M.bind (f ρ) gn) :=
  PEimp (pe_callB hc hg hm hv ha hn hdb he hpl) (cbn_f hs)
theorem d_callTy (hc : CallR X (.type T) r) (hs : SndC X.K r g) (hg : Gl X x) (hm : X.mg x = none) (hv : bootBuiltins x = some (.type T)) (ha : DA X (e :: es) f) (hn : x ≠ "__name__" := by decide) (hdb : (x == ("__debug__" : Str)) = false := by decide)
    (he : starEach (e :: es) X.env = (false, eval e X.env) :: starEach es X.env := by rfl) (hpl : (backTo pos (starEach es X.env)).any (·.1) = false := by rfl) : DE X (.Call (.Name x p) (e :: es) [] pos) (fun ρ => M.bind (f ρ) g) :=
  PEimp (pe_callTy hc hg hm hv ha hn hdb he hpl) (cb_f hs)
theorem dn_callTy (hc : CallR X (.type T) r) (hs : SndCN X.K r gn) (hg : Gl X x) (hm : X.mg x = none) (hv : bootBuiltins x = some (.type T)) (ha : DA X (e :: es) f) (hn : x ≠ "__name__" := by decide) (hdb : (x == ("__debug__" : Str)) = false := by decide)
    (he : starEach (e :: es) X.env = (false, eval e X.env) :: starEach es X.env := by rfl) (hpl : (backTo pos (starEach es X.env)).any (·.1) = false := by rfl) : DN X (.Call (.Name x p) (e :: es) [] pos) (fun ρ => M.bind (f ρ) gn) :=
  PEimp (pe_callTy hc hg hm hv ha hn hdb he hpl) (cbn_f hs)
end
end DL
set_option Elab.async false
set_option maxRecDepth 100000
set_option autoImplicit false
set_option linter.unusedVariables false
set_option maxHeartbeats 4000000
namespace DL
open PySem L2
variable [TAB : TabList]
variable [EFF : Eff]
set_option linter.unusedSectionVars false
def Yl (K : PySem.W.Frag) (G0 : Hp) (J : It) (ds : List D) : Prop := ∀ (i : Nat) (G H : Hp) (b : Bs), Same G0 G → SameF G H → BagOk G H b →
  (∀ d, ds[i]? = some d → J.go i H ∧ ∀ x H', J.yld i H x H' → ∃ G', Nxt G H b G' H' b ∧ Rp K G' x d) ∧ (ds.length ≤ i → J.stop i H)
def iF (K : PySem.W.Frag) (g : Env → M (List D)) : TI := fun σ H R => ∃ ρ G b ds b', RS K G σ ρ ∧ SameF G H ∧ BagOk G H b ∧ g ρ b = some (ds, b') ∧
  ∀ J G' H', Nxt G H b G' H' b' → Yl K G' J ds → R J H'
def iR (K : PySem.W.Frag) (g : Env → M (List D)) : TI := fun σ H R => ∃ ρ G b ds b', RS K G σ ρ ∧ SameF G H ∧ BagOk G H b ∧ g ρ b = some (ds, b') ∧
  ∀ J G' H', Nxt G H b G' H' b' → Yl K (fun _ => none) J ds → R J H'
abbrev DI (X : Cx) (tg e : Expr) (g : Env → M (List D)) : Prop := PI X tg e (iF X.K g)
abbrev DR (X : Cx) (tg e : Expr) (g : Env → M (List D)) : Prop := PI X tg e (iR X.K g)
theorem PIimp {X : Cx} {tg e : Expr} {t t' : TI} (h : PI X tg e t) (i : ∀ σ H Q, t' σ H Q → t σ H Q) : PI X tg e t' := ⟨fun pins s σ H Q I q => h.run pins s σ H Q I (i σ H Q q)⟩
theorem di_r {X : Cx} {tg e : Expr} {g : Env → M (List D)} (h : DR X tg e g) : DI X tg e g := PIimp h fun σ H R ⟨ρ, G, b, ds, b', rs, fz, ob, e, q⟩ =>
  ⟨ρ, G, b, ds, b', rs, fz, ob, e, fun J G' H' n y => q J G' H' n fun i G2 H2 b2 _ f o => y i G2 H2 b2 (fun _ _ z => nomatch z) f o⟩
def itemsD : D → M (List D)
  | .lst xs => M.ret xs
  | .tup xs => M.ret xs
  | .str x => M.ret (x.map fun c => .str [c])
  | _ => M.fail
theorem yl_list {K : PySem.W.Frag} {G : Hp} {a : Addr} {vs : List V} {ds : List D} (h : G a = some (.lst vs)) (r : RpL K G vs ds) : Yl K G (Itl K a) ds := by
  intro i G1 H1 b s1 s2 ob
  have hq : SqL K H1 a vs := SqL.of (s2 _ _ (s1 _ _ h))
  refine ⟨fun d hd => ?_, fun hl => ⟨vs, hq, by rw [r.length]; exact hl⟩⟩
  obtain ⟨v, h1, h2⟩ := r.get hd
  refine ⟨⟨vs, v, hq, h1⟩, ?_⟩
  rintro x H' ⟨rfl, hx⟩
  refine ⟨G1, Nxt.refl s2 ob, ?_⟩
  rw [hx vs hq] at h1
  cases h1
  exact h2.mono s1
theorem yl_tup {K : PySem.W.Frag} {G : Hp} {a : Addr} {vs : List V} {ds : List D} (h : SqT K G a vs) (r : RpL K G vs ds) : Yl K G (Itt K a) ds := by
  intro i G1 H1 b s1 s2 ob
  have hq : SqT K H1 a vs := SameF.sqt s2 (Same.sqt s1 h)
  refine ⟨fun d hd => ?_, fun hl => ⟨vs, hq, by rw [r.length]; exact hl⟩⟩
  obtain ⟨v, h1, h2⟩ := r.get hd
  refine ⟨⟨vs, v, hq, h1⟩, ?_⟩
  rintro x H' ⟨rfl, hx⟩
  refine ⟨G1, Nxt.refl s2 ob, ?_⟩
  rw [hx vs hq] at h1
  cases h1
  exact h2.mono s1
theorem yl_str {K : PySem.W.Frag} {G : Hp} (x : List Nat) : Yl K G (Its ⟨x.toArray⟩) (x.map fun c => .str [c]) := by
  intro i G1 H1 b s1 s2 ob
  refine ⟨fun d hd => ?_, fun hl => ?_⟩
  · rw [List.getElem?_map] at hd
    cases e : x[i]? with
    | none => rw [e] at hd; cases hd
    | some c =>
      rw [e] at hd
      cases hd
      have hi : i < x.length := (List.getElem?_eq_some_iff.mp e).1
      refine ⟨by show i < x.toArray.size; simpa using hi, ?_⟩
      rintro y H' ⟨rfl, c', h1, rfl⟩
      have h1' : x.toArray[i]? = some c' := h1
      have : c = c' := by
        rw [List.getElem?_toArray, e] at h1'
        exact Option.some.inj h1'
      subst this
      exact ⟨G1, Nxt.refl s2 ob, Rp.str [c]⟩
  · show x.toArray.size ≤ i
    simpa using hl
theorem yl_range {K : PySem.W.Frag} {G : Hp} (lo : Int) (n : Nat) : Yl K G (Itr lo n) ((List.range n).map fun k => .int (lo + (k : Nat))) := by
  intro i G1 H1 b s1 s2 ob
  refine ⟨fun d hd => ?_, fun hl => by show n ≤ i; simpa using hl⟩
  rw [List.getElem?_map] at hd
  by_cases hi : i < n
  · rw [List.getElem?_range hi] at hd
    cases hd
    refine ⟨hi, ?_⟩
    rintro y H' ⟨rfl, rfl⟩
    exact ⟨G1, Nxt.refl s2 ob, Rp.int _⟩
  · rw [List.getElem?_eq_none (by simpa using hi)] at hd
    cases hd
section
variable {X : Cx} {tg : Expr} {p pos : Pos}
theorem di_any {e : Expr} {f : Env → M D} (h : DE X e f) : DI X tg e (fun ρ => M.bind (f ρ) itemsD) := by
  have pl := pi_list (tg := tg) h
  have pt := pi_tup (tg := tg) h
  have px := pi_str (tg := tg) h
  refine ⟨fun pins s σ H R I q0 => ?_⟩
  obtain ⟨ρ, G, b, ds, b', rs, fz, ob, e, q⟩ := q0
  obtain ⟨d, b1, e1, e2⟩ := M.bind_some e
  cases d with
  | lst xs =>
    cases e2
    refine pl.run pins s σ H R I ⟨ρ, G, b, _, b', rs, fz, ob, e1, fun v G' H' n r => ?_⟩
    cases r with
    | lst h1 h2 => exact ⟨_, rfl, ⟨_, SqL.of (n.fz _ _ h1)⟩, q _ G' H' n (yl_list h1 h2)⟩
  | tup xs =>
    cases e2
    refine pt.run pins s σ H R I ⟨ρ, G, b, _, b', rs, fz, ob, e1, fun v G' H' n r => ?_⟩
    cases r with
    | tup h1 h2 => exact ⟨_, rfl, ⟨_, SameF.sqt n.fz h1⟩, q _ G' H' n (yl_tup h1 h2)⟩
  | str x =>
    cases e2
    refine px.run pins s σ H R I ⟨ρ, G, b, _, b', rs, fz, ob, e1, fun v G' H' n r => ?_⟩
    cases r with
    | str x => exact ⟨_, rfl, q _ G' H' n (yl_str x)⟩
  | dct _ _ => cases e2
  | dcT _ _ => cases e2
  | non => cases e2
  | bl _ => cases e2
  | int _ => cases e2
  | obj _ _ => cases e2
  | bag _ => cases e2
  | scr _ => cases e2
  | exc _ _ _ _ => cases e2
  | clo _ _ => cases e2
  | cel _ => cases e2
def okR (i : Int) : Bool := decide (-(2 ^ 62) ≤ i) && decide (i < 2 ^ 62)
def rng1 : List D → M (List D)
  | [.int j] => M.guard (okR j) (M.ret ((List.range j.toNat).map fun k => .int (0 + (k : Nat))))
  | _ => M.fail
def rng2 : List D → M (List D)
  | [.int i, .int j] => M.guard (okR i && okR j) (M.ret ((List.range (j - i).toNat).map fun k => .int (i + (k : Nat))))
  | _ => M.fail
theorem dr_range1 {a : Expr} {f : Env → M (List D)} (hg : Gl X "range") (hm : X.mg "range" = none) (ha : DA X [a] f) (hs : starEach [a] X.env = [(false, eval a X.env)] := by rfl) : DR X tg (.Call (.Name "range" p) [a] [] pos) (fun ρ => M.bind (f ρ) rng1) := by
  refine PIimp (pi_range1 hg hm ha hs) ?_
  rintro σ H Q ⟨ρ, G, b, ds, b', rs, fz, ob, e, q⟩
  obtain ⟨d, b1, e1, e2⟩ := M.bind_some e
  refine ⟨ρ, G, b, d, b1, rs, fz, ob, e1, fun vs G' H' n r => ?_⟩
  unfold rng1 at e2
  split at e2
  · obtain ⟨c, e3⟩ := M.guard_some e2
    cases e3
    cases r with
    | cons r1 r2 =>
      cases r2
      cases r1
      have c' := of_decide_eq_true (Bool.and_eq_true_iff.mp c).1
      have c'' := of_decide_eq_true (Bool.and_eq_true_iff.mp c).2
      exact ⟨_, rfl, c', c'', q _ _ _ n (yl_range 0 _)⟩
  · cases e2
theorem dr_range2 {a a2 : Expr} {f : Env → M (List D)} (hg : Gl X "range") (hm : X.mg "range" = none) (ha : DA X [a, a2] f) (hs : starEach [a, a2] X.env = [(false, eval a X.env), (false, eval a2 X.env)] := by rfl) (hs2 : starEach [a2] X.env = [(false, eval a2 X.env)] := by rfl) :
    DR X tg (.Call (.Name "range" p) [a, a2] [] pos) (fun ρ => M.bind (f ρ) rng2) := by
  refine PIimp (pi_range2 hg hm ha hs hs2) ?_
  rintro σ H Q ⟨ρ, G, b, ds, b', rs, fz, ob, e, q⟩
  obtain ⟨d, b1, e1, e2⟩ := M.bind_some e
  refine ⟨ρ, G, b, d, b1, rs, fz, ob, e1, fun vs G' H' n r => ?_⟩
  unfold rng2 at e2
  split at e2
  · obtain ⟨c, e3⟩ := M.guard_some e2
    cases e3
    cases r with
    | cons r1 r2 =>
      cases r2 with
      | cons r2 r3 =>
        cases r3
        cases r1
        cases r2
        obtain ⟨c1, c2⟩ := Bool.and_eq_true_iff.mp c
        exact ⟨_, _, rfl, ⟨of_decide_eq_true (Bool.and_eq_true_iff.mp c1).1, of_decide_eq_true (Bool.and_eq_true_iff.mp c1).2, of_decide_eq_true (Bool.and_eq_true_iff.mp c2).1, of_decide_eq_true (Bool.and_eq_true_iff.mp c2).2⟩, q _ _ _ n (yl_range _ _)⟩
  · cases e2
end
def setAll (σ : L2.St) : List (Nat × V) → L2.St
  | [] => σ
  | (i, v) :: r => setAll (σ.set i (some v)) r
def setAllD (ρ : Env) : List (Nat × D) → Env
  | [] => ρ
  | (i, d) :: r => setAllD (ρ.set i (some d)) r
abbrev RpP (K : PySem.W.Frag) (G : Hp) : List (Nat × V) → List (Nat × D) → Prop := Paired fun p q => p.1 = q.1 ∧ Rp K G p.2 q.2
def TgOk (K : PySem.W.Frag) (g : TG) (bs : D → Option (List (Nat × D))) (is : List Nat) : Prop := ∀ G v d l, Rp K G v d → bs d = some l →
  ∃ lv, RpP K G lv l ∧ (∀ p ∈ lv, p.1 ∈ is) ∧ ∀ H σ Q, SameF G H → Q (setAll σ lv) H → g v σ H Q
def bName (i : Nat) : D → Option (List (Nat × D)) := fun d => some [(i, d)]
theorem tg_name {K : PySem.W.Frag} (i : Nat) : TgOk K (gName i) (bName i) [i] := by
  intro G v d l r e
  cases e
  exact ⟨[(i, v)], .cons ⟨rfl, r⟩ .nil, fun p hp => by simp at hp; subst hp; simp, fun H σ Q _ q => q⟩
def TgsOk (K : PySem.W.Frag) (g : TGs) (bs : List D → Option (List (Nat × D))) (is : List Nat) : Prop := ∀ G vs ds l, RpL K G vs ds → bs ds = some l →
  ∃ lv, RpP K G lv l ∧ (∀ p ∈ lv, p.1 ∈ is) ∧ ∀ H σ Q, SameF G H → Q (setAll σ lv) H → g vs σ H Q
def bNil : List D → Option (List (Nat × D))
  | [] => some []
  | _ => none
def bCons (f : D → Option (List (Nat × D))) (g : List D → Option (List (Nat × D))) : List D → Option (List (Nat × D))
  | d :: r => match f d, g r with
    | some l, some l' => some (l ++ l')
    | _, _ => none
  | [] => none
theorem setAll_app (σ : L2.St) : ∀ (l l' : List (Nat × V)), setAll σ (l ++ l') = setAll (setAll σ l) l'
  | [], _ => rfl
  | (i, v) :: r, l' => by show setAll (σ.set i (some v)) (r ++ l') = setAll (setAll (σ.set i (some v)) r) l'; exact setAll_app _ r l'
theorem paired_app {α β : Type} {F : α → β → Prop} : ∀ {a : List α} {b : List β} {c : List α} {d : List β}, Paired F a b → Paired F c d → Paired F (a ++ c) (b ++ d)
  | _, _, _, _, .nil, h => h
  | _, _, _, _, .cons x y, h => .cons x (paired_app y h)
theorem tgs_nil {K : PySem.W.Frag} : TgsOk K gNil bNil [] := by
  intro G vs ds l r e
  cases r with
  | nil => cases e; exact ⟨[], .nil, fun p hp => (nomatch hp), fun H σ Q _ q => ⟨rfl, q⟩⟩
  | cons _ _ => cases e
theorem tgs_cons {K : PySem.W.Frag} {g : TG} {gs : TGs} {f : D → Option (List (Nat × D))} {fs : List D → Option (List (Nat × D))} {is js : List Nat} (h1 : TgOk K g f is) (h2 : TgsOk K gs fs js) : TgsOk K (gCons g gs) (bCons f fs) (is ++ js) := by
  intro G vs ds l r e
  cases r with
  | nil => cases e
  | @cons v vs d ds r1 r2 =>
    unfold bCons at e
    cases e1 : f d with
    | none => simp only [e1] at e; cases e
    | some l1 =>
      cases e2 : fs ds with
      | none => simp only [e1, e2] at e; cases e
      | some l2 =>
        simp only [e1, e2] at e
        cases e
        obtain ⟨lv1, p1, i1, q1⟩ := h1 G v d l1 r1 e1
        obtain ⟨lv2, p2, i2, q2⟩ := h2 G vs ds l2 r2 e2
        refine ⟨lv1 ++ lv2, paired_app p1 p2, fun p hp => ?_, fun H σ Q s q => ?_⟩
        · rcases List.mem_append.mp hp with z | z
          · exact List.mem_append_left _ (i1 p z)
          · exact List.mem_append_right _ (i2 p z)
        · rw [setAll_app] at q
          exact ⟨v, vs, rfl, q1 H σ _ s (q2 H _ Q s q)⟩
def bTup (n : Nat) (f : List D → Option (List (Nat × D))) : D → Option (List (Nat × D))
  | .tup ds => if ds.length = n then f ds else none
  | _ => none
theorem tg_tup {K : PySem.W.Frag} {gs : TGs} {fs : List D → Option (List (Nat × D))} {is : List Nat} (n : Nat) (h : TgsOk K gs fs is) : TgOk K (gTup K n gs) (bTup n fs) is := by
  intro G v d l r e
  cases r with
  | @tup a vs ds h1 h2 =>
    have e' : (if ds.length = n then fs ds else none) = some l := e
    by_cases hn : ds.length = n
    · rw [if_pos hn] at e'
      obtain ⟨lv, p1, i1, q1⟩ := h G vs ds l h2 e'
      exact ⟨lv, p1, i1, fun H σ Q s q => ⟨a, vs, rfl, SameF.sqt s h1, by rw [h2.length]; exact hn, q1 H σ Q s q⟩⟩
    · rw [if_neg hn] at e'; cases e'
  | _ => cases e
theorem RS.set {K : PySem.W.Frag} {G : Hp} {σ : L2.St} {ρ : Env} {i : Nat} {v : V} {d : D} (h : RS K G σ ρ) (r : Rp K G v d) : RS K G (σ.set i (some v)) (ρ.set i (some d)) := by
  have hl := h.len
  refine ⟨by simpa using hl, ?_⟩
  intro j d' e
  by_cases hj : i = j
  · subst hj
    by_cases hi : i < ρ.length
    · rw [List.getElem?_set_self hi] at e
      cases e
      exact ⟨v, List.getElem?_set_self (Nat.lt_of_lt_of_le hi hl), r⟩
    · rw [List.getElem?_eq_none (by simpa using hi)] at e
      cases e
  · rw [List.getElem?_set_ne hj] at e
    obtain ⟨w, h1, h2⟩ := h.get j d' e
    exact ⟨w, by rw [List.getElem?_set_ne hj]; exact h1, h2⟩
theorem RS.setAll {K : PySem.W.Frag} {G : Hp} : ∀ {lv : List (Nat × V)} {l : List (Nat × D)} {σ : L2.St} {ρ : Env}, RpP K G lv l → RS K G σ ρ → RS K G (setAll σ lv) (setAllD ρ l)
  | _, _, _, _, .nil, h => h
  | (i, v) :: lv, (j, d) :: l, σ, ρ, .cons ⟨e, r⟩ p, h => by
    have e : i = j := e
    subst e
    exact RS.setAll (lv := lv) (l := l) p (h.set r)
def wipeD (ρ : Env) : List Nat → Env
  | [] => ρ
  | v :: vs => (wipeD ρ vs).set v none
theorem wipeD_length (ρ : Env) : ∀ vs : List Nat, (wipeD ρ vs).length = ρ.length
  | [] => rfl
  | v :: vs => by unfold wipeD; rw [List.length_set, wipeD_length ρ vs]
theorem RS.wipe {K : PySem.W.Frag} {G : Hp} {σ : L2.St} {ρ : Env} (h : RS K G σ ρ) : ∀ vs : List Nat, RS K G (wipe σ vs) (wipeD ρ vs)
  | [] => h
  | v :: vs => by
    refine ⟨by rw [wipeD_length, wipe_length]; exact h.len, ?_⟩
    intro j d e
    have e' : ((wipeD ρ vs).set v none)[j]? = some (some d) := e
    have ih := RS.wipe h vs
    by_cases hj : v = j
    · subst hj
      by_cases hv : v < (wipeD ρ vs).length
      · rw [List.getElem?_set_self hv] at e'; cases e'
      · rw [List.getElem?_eq_none (by simpa using hv)] at e'; cases e'
    · rw [List.getElem?_set_ne hj] at e'
      obtain ⟨w, h1, h2⟩ := ih.get j d e'
      refine ⟨w, ?_, h2⟩
      show ((L2.wipe σ vs).set v none)[j]? = _
      rw [List.getElem?_set_ne hj]; exact h1
theorem wipe_set_in {σ : L2.St} {v : Nat} {x : Option V} : ∀ {vs : List Nat}, v ∈ vs → wipe (σ.set v x) vs = wipe σ vs
  | [], h => by cases h
  | u :: vs, h => by
    show (wipe (σ.set v x) vs).set u none = (wipe σ vs).set u none
    by_cases hv : v ∈ vs
    · rw [wipe_set_in hv]
    · have e : v = u := by
        rcases List.mem_cons.mp h with e | e
        · exact e
        · exact absurd e hv
      subst e
      have comm : ∀ (τ : L2.St) (ws : List Nat), v ∉ ws → wipe (τ.set v x) ws = (wipe τ ws).set v x := by
        intro τ ws
        induction ws with
        | nil => intro _; rfl
        | cons u ws ih =>
          intro hu
          have h1 : v ≠ u := fun z => hu (by simp [z])
          have h2 : v ∉ ws := fun z => hu (by simp [z])
          show (wipe (τ.set v x) ws).set u none = ((wipe τ ws).set u none).set v x
          rw [ih h2, List.set_comm _ _ h1]
      rw [comm σ vs hv, List.set_set]
theorem wipe_setAll {vs : List Nat} : ∀ {lv : List (Nat × V)} {σ : L2.St}, (∀ p ∈ lv, p.1 ∈ vs) → wipe (setAll σ lv) vs = wipe σ vs
  | [], _, _ => rfl
  | (i, v) :: r, σ, h => by
    show wipe (setAll (σ.set i (some v)) r) vs = wipe σ vs
    rw [wipe_setAll (fun p hp => h p (List.mem_cons_of_mem _ hp)), wipe_set_in (h (i, v) List.mem_cons_self)]
theorem wipe_wipe {σ : L2.St} : ∀ {vs ws : List Nat}, (∀ v ∈ vs, v ∈ ws) → wipe (wipe σ vs) ws = wipe σ ws
  | [], _, _ => rfl
  | v :: vs, ws, h => by
    show wipe ((wipe σ vs).set v none) ws = wipe σ ws
    rw [wipe_set_in (h v List.mem_cons_self), wipe_wipe fun u hu => h u (List.mem_cons_of_mem _ hu)]
def compM (bs : D → Option (List (Nat × D))) (c : Env → M Bool) (e : Env → M D) (ρ : Env) : List D → M (List D)
  | [] => M.ret []
  | x :: xs => match bs x with
    | none => M.fail
    | some l => M.bind (c (setAllD ρ l)) fun k => if k = true then M.bind (e (setAllD ρ l)) fun y => M.bind (compM bs c e ρ xs) fun ys => M.ret (y :: ys) else compM bs c e ρ xs
abbrev DTs (X : Cx) (ifs : List Expr) (f : Env → M Bool) : Prop := PTs X ifs (tFT X.K f)
theorem PTsimp {X : Cx} {ifs : List Expr} {t t' : TT} (h : PTs X ifs t) (i : ∀ σ H Q, t' σ H Q → t σ H Q) : PTs X ifs t' := ⟨fun pins s σ H Q I q => h.run pins s σ H Q I (i σ H Q q)⟩
theorem dts_nil {X : Cx} : DTs X [] (fun _ => M.ret true) := by
  refine PTsimp pts_nil ?_
  rintro σ H Q ⟨ρ, G, b, ds, b', rs, fz, ob, e, q⟩
  cases e
  exact q _ _ (Nxt.refl fz ob)
theorem dts_one {X : Cx} {c : Expr} {f : Env → M Bool} (h : DT X c f) : DTs X [c] f := pts_one h
theorem lc_f {K : PySem.W.Frag} {gi : Env → M (List D)} {g : TG} {bs : D → Option (List (Nat × D))} {is vs : List Nat} {c : Env → M Bool} {e : Env → M D} (tg : TgOk K g bs is) (his : ∀ i ∈ is, i ∈ vs) :
    ∀ σ H Q, tN K (fun ρ => M.bind (gi ρ) fun xs => M.bind (compM bs c e (wipeD ρ vs) xs) fun ys => M.guard (szL ys) (M.ret ys)) σ H Q → tLc (iF K gi) g (tFT K c) (tF K e) vs σ H Q := by
  rintro σ H Q ⟨ρ, G, b, ds, b', rs, fz, ob, e0, q⟩
  obtain ⟨xs, b1, e1, e2⟩ := M.bind_some e0
  obtain ⟨ys, b2, e2, e3⟩ := M.bind_some e2
  obtain ⟨hz, e4⟩ := M.guard_some e3
  cases e4
  have hz1 : ds.length ≤ sizeLine := of_decide_eq_true hz
  refine ⟨ρ, G, b, xs, b1, rs, fz, ob, e1, fun J G1 H1 n1 yl Dd hD => ?_⟩
  have m0 : Nxt G1 H1 b1 G1 (upd H1 Dd (.lst [])) b1 := Nxt.newH n1.fz n1.bag hD
  refine ⟨fun i m H2 => m = xs.length - i ∧ i ≤ xs.length ∧ ∃ G2 bb accv acc rest, Nxt G H b G2 H2 bb ∧ Same G1 G2 ∧ G2 Dd = none ∧ H2 Dd = some (.lst accv) ∧ RpL K G2 accv acc ∧ compM bs c e (wipeD ρ vs) (xs.drop i) bb = some (rest, b') ∧ acc ++ rest = ds,
    ⟨xs.length, by simp, Nat.zero_le _, G1, b1, [], [], ds, n1.trans m0, fun _ _ h => h, gnone n1.fz hD, upd_same, .nil, by simpa using e2, rfl⟩, ?_⟩
  rintro i m H2 ⟨rfl, hi, G2, bb, accv, acc, rest, n2, s12, gD, hDd, ra, ec, ea⟩
  have Y := yl i G2 H2 bb s12 n2.fz n2.bag
  by_cases hlt : i < xs.length
  · have hx : xs[i]? = some xs[i] := List.getElem?_eq_getElem hlt
    have hdr : xs.drop i = xs[i] :: xs.drop (i + 1) := List.drop_eq_getElem_cons hlt
    obtain ⟨hgo, hy⟩ := Y.1 _ hx
    refine .inr ⟨hgo, fun H3 => ∃ G2 bb accv acc rest, Nxt G H b G2 H3 bb ∧ Same G1 G2 ∧ G2 Dd = none ∧ H3 Dd = some (.lst accv) ∧ RpL K G2 accv acc ∧ compM bs c e (wipeD ρ vs) (xs.drop (i + 1)) bb = some (rest, b') ∧ acc ++ rest = ds,
      fun H' h' => ⟨xs.length - (i + 1), by omega, rfl, hlt, h'⟩, fun x H3 hyl => ?_⟩
    obtain ⟨G3, n3, rx⟩ := hy x H3 hyl
    rw [hdr] at ec
    unfold compM at ec
    cases eb : bs xs[i] with
    | none => rw [eb] at ec; cases ec
    | some l =>
      rw [eb] at ec
      obtain ⟨lv, pl, il, gq⟩ := tg G3 x xs[i] l rx eb
      refine gq H3 _ _ n3.fz ?_
      have rsb : RS K G3 (setAll (wipe σ vs) lv) (setAllD (wipeD ρ vs) l) := by
        refine RS.setAll pl (RS.wipe (rs.mono ?_) vs)
        exact fun a o h => n3.gg a o (n2.gg a o h)
      refine ⟨?_, ?_⟩
      · rw [wipe_setAll fun p hp => his _ (il p hp)]
        exact wipe_wipe fun v hv => hv
      · obtain ⟨k, b3, ek, ec⟩ := M.bind_some ec
        have gD3 : G3 Dd = none := n3.new Dd _ hDd gD
        have nb : ¬ bb.hit Dd := by rw [← Bs.like_at n2.like]; exact bag_ne ob (n1.free hD)
        have hD3 : H3 Dd = some (.lst accv) := n3.keep Dd _ hDd nb
        refine ⟨_, G3, bb, k, b3, rsb, n3.fz, n3.bag, ek, fun G4 H4 n4 => ?_⟩
        have gD4 : G4 Dd = none := n4.new Dd _ hD3 gD3
        have hD4 : H4 Dd = some (.lst accv) := n4.keep Dd _ hD3 nb
        have nb3 : ¬ b3.hit Dd := by rw [← Bs.like_at n4.like]; exact nb
        cases k with
        | false =>
          refine iteF ⟨G4, b3, accv, acc, rest, (n2.trans n3).trans n4, fun a o h => n4.gg a o (n3.gg a o (s12 a o h)), gD4, hD4, (ra.mono n3.gg).mono n4.gg, ec, ea⟩
        | true =>
          refine iteT ?_
          obtain ⟨y, b4, ey, ec⟩ := M.bind_some ec
          obtain ⟨ys2, b5, ey2, ec⟩ := M.bind_some ec
          cases ec
          refine ⟨_, G4, b3, y, b4, rsb.mono n4.gg, n4.fz, n4.bag, ey, fun v G5 H5 n5 rv => ?_⟩
          have gD5 : G5 Dd = none := n5.new Dd _ hD4 gD4
          have hD5 : H5 Dd = some (.lst accv) := n5.keep Dd _ hD4 nb3
          have la : accv.length = acc.length := ra.length
          have lz : acc.length < sizeLine := by
            have := congrArg List.length ea
            simp at this
            omega
          refine ⟨accv, hD5, by rw [la]; exact lz, ?_⟩
          refine ⟨G5, b4, accv ++ [v], acc ++ [y], ys2, (((n2.trans n3).trans n4).trans n5).mut ob (n1.free hD) gD5 (nc_of hD5), fun a o h => n5.gg a o (n4.gg a o (n3.gg a o (s12 a o h))), gD5, upd_same, (((ra.mono n3.gg).mono n4.gg).mono n5.gg).append (.cons rv .nil), ey2, ?_⟩
          rw [← ea]; simp
  · have e : i = xs.length := by omega
    subst e
    refine .inl ⟨Y.2 (Nat.le_refl _), ?_⟩
    have hr : xs.drop xs.length = [] := by simp
    rw [hr] at ec
    cases ec
    simp at ea
    subst ea
    exact q Dd accv G2 H2 n2 (n1.free hD) gD hDd ra
theorem dn_lc {X : Cx} {elt tg iter : Expr} {ifs : List Expr} {scope : Scope} {own : List (Str × Nat)} {pos : Pos} {gi : Env → M (List D)} {g : TG} {bs : D → Option (List (Nat × D))} {is : List Nat} {c : Env → M Bool} {e : Env → M D}
    (hc : X.calm = true) (hN : X.N.Nodup) (hi : DI X tg iter gi) (ok : BlkOk X.N X.env.scope scope own) (ht : TgOk X.K g bs is) (his : is.all (fun i => (own.map (·.2)).contains i) = true)
    (hg : ∀ (s : Shared) (H : Hp) (C : Addr) (cl : List (Str × Addr)) (fp : List Addr), PG (X.blk s H scope (compEnvC scope cl C X.env) fp) tg g) (htt : ∀ (s : Shared) (H : Hp) (C : Addr) (cl : List (Str × Addr)) (fp : List Addr), DTs (X.blk s H scope (compEnvC scope cl C X.env) fp) ifs c)
    (he : ∀ (s : Shared) (H : Hp) (C : Addr) (cl : List (Str × Addr)) (fp : List Addr), DE (X.blk s H scope (compEnvC scope cl C X.env) fp) elt e) (hs : ∀ x, foldedSetIterable iter X.env x = pure x := by intro _; rfl) :
    DN X (.ListComp elt [⟨tg, iter, ifs, 0⟩] scope pos) (fun ρ => M.bind (gi ρ) fun xs => M.bind (compM bs c e (wipeD ρ (own.map (·.2))) xs) fun ys => M.guard (szL ys) (M.ret ys)) :=
  PEimp (pe_lc hc hN hi ok hg htt he hs) (lc_f ht fun i hi => by
    have := List.all_eq_true.mp his i hi
    simpa using this)
end DL
set_option Elab.async false
set_option maxRecDepth 100000
set_option autoImplicit false
set_option linter.unusedVariables false
set_option maxHeartbeats 4000000
namespace DL
open PySem L2
variable [TAB : TabList]
variable [EFF : Eff]
set_option linter.unusedSectionVars false
inductive O where
  | v (d : D) | l (xs : List O) | k (ks : List Key) (xs : List O) | t (ks : List (List Key)) (xs : List O) | u (xs : List O)
mutual
def O.toD : O → D
  | .v d => d
  | .l xs => .lst (O.toDs xs)
  | .k ks xs => .dct ks (O.toDs xs)
  | .t ks xs => .dcT ks (O.toDs xs)
  | .u xs => .tup (O.toDs xs)
def O.toDs : List O → List D
  | [] => []
  | x :: r => x.toD :: O.toDs r
end
theorem O.toDs_v : ∀ xs : List D, O.toDs (xs.map O.v) = xs
  | [] => rfl
  | x :: r => by
    show _ :: O.toDs (r.map O.v) = _
    rw [O.toDs_v r]; rfl
mutual
inductive Ow (K : PySem.W.Frag) (G H : Hp) : V → O → List Addr → Prop
  | v {v : V} {d : D} : Rp K G v d → Ow K G H v (.v d) []
  | l {p : Addr} {vs : List V} {xs : List O} {fp : List Addr} : H p = some (.lst vs) → OwL K G H vs xs fp → Ow K G H (.ref p) (.l xs) (p :: fp)
  | k {p : Addr} {ks : List Key} {vs : List V} {xs : List O} {fp : List Addr} : H p = some (.dK (ks.zip vs)) → ks.length = vs.length → OwL K G H vs xs fp → Ow K G H (.ref p) (.k ks xs) (p :: fp)
  | t {p : Addr} {ks : List (List Key)} {vs : List V} {xs : List O} {fp : List Addr} : H p = some (.dT (ks.zip vs)) → ks.length = vs.length → OwL K G H vs xs fp → Ow K G H (.ref p) (.t ks xs) (p :: fp)
  | u {p : Addr} {vs : List V} {xs : List O} {fp : List Addr} : SqT K G p vs → OwL K G H vs xs fp → Ow K G H (.ref p) (.u xs) fp
inductive OwL (K : PySem.W.Frag) (G H : Hp) : List V → List O → List Addr → Prop
  | nil : OwL K G H [] [] []
  | cons {v : V} {vs : List V} {x : O} {xs : List O} {fp fq : List Addr} : Ow K G H v x fp → OwL K G H vs xs fq → OwL K G H (v :: vs) (x :: xs) (fp ++ fq)
end
mutual
theorem Ow.mono {K : PySem.W.Frag} {G H G' H' : Hp} (e : Same G G') : ∀ {v : V} {o : O} {fp : List Addr}, (∀ a ∈ fp, H' a = H a) → Ow K G H v o fp → Ow K G' H' v o fp
  | _, _, _, _, .v r => .v (r.mono e)
  | _, _, _, h, .l hp r => .l (by rw [h _ List.mem_cons_self]; exact hp) (OwL.mono e (fun a ha => h a (List.mem_cons_of_mem _ ha)) r)
  | _, _, _, h, .k hp hl r => .k (by rw [h _ List.mem_cons_self]; exact hp) hl (OwL.mono e (fun a ha => h a (List.mem_cons_of_mem _ ha)) r)
  | _, _, _, h, .t hp hl r => .t (by rw [h _ List.mem_cons_self]; exact hp) hl (OwL.mono e (fun a ha => h a (List.mem_cons_of_mem _ ha)) r)
  | _, _, _, h, .u hp r => .u (Same.sqt e hp) (OwL.mono e h r)
theorem OwL.mono {K : PySem.W.Frag} {G H G' H' : Hp} (e : Same G G') : ∀ {vs : List V} {os : List O} {fp : List Addr}, (∀ a ∈ fp, H' a = H a) → OwL K G H vs os fp → OwL K G' H' vs os fp
  | _, _, _, _, .nil => .nil
  | _, _, _, h, .cons a b => .cons (Ow.mono e (fun z hz => h z (List.mem_append_left _ hz)) a) (OwL.mono e (fun z hz => h z (List.mem_append_right _ hz)) b)
end
mutual
theorem Ow.rp {K : PySem.W.Frag} {G H Gp : Hp} (e : Same G Gp) : ∀ {v : V} {o : O} {fp : List Addr}, (∀ a ∈ fp, Gp a = H a) → Ow K G H v o fp → Rp K Gp v o.toD
  | _, _, _, _, .v r => r.mono e
  | _, _, _, h, .l hp r => .lst (by rw [h _ List.mem_cons_self]; exact hp) (OwL.rp e (fun a ha => h a (List.mem_cons_of_mem _ ha)) r)
  | _, _, _, h, .k hp hl r => .dct (.of (by rw [h _ List.mem_cons_self]; exact hp)) hl (OwL.rp e (fun a ha => h a (List.mem_cons_of_mem _ ha)) r)
  | _, _, _, h, .t hp hl r => .dcT (.of (by rw [h _ List.mem_cons_self]; exact hp)) hl (OwL.rp e (fun a ha => h a (List.mem_cons_of_mem _ ha)) r)
  | _, _, _, h, .u hp r => .tup (Same.sqt e hp) (OwL.rp e h r)
theorem OwL.rp {K : PySem.W.Frag} {G H Gp : Hp} (e : Same G Gp) : ∀ {vs : List V} {os : List O} {fp : List Addr}, (∀ a ∈ fp, Gp a = H a) → OwL K G H vs os fp → RpL K Gp vs (O.toDs os)
  | _, _, _, _, .nil => .nil
  | _, _, _, h, .cons a b => .cons (Ow.rp e (fun z hz => h z (List.mem_append_left _ hz)) a) (OwL.rp e (fun z hz => h z (List.mem_append_right _ hz)) b)
end
theorem OwL.flat {K : PySem.W.Frag} {G H : Hp} : ∀ {vs : List V} {ds : List D}, RpL K G vs ds → OwL K G H vs (ds.map O.v) []
  | _, _, .nil => .nil
  | _, _, .cons a r => OwL.cons (fp := []) (fq := []) (.v a) (OwL.flat r)
theorem OwL.unflat {K : PySem.W.Frag} {G H : Hp} : ∀ {vs : List V} {ds : List D} {fp : List Addr}, OwL K G H vs (ds.map O.v) fp → RpL K G vs ds ∧ fp = []
  | _, [], _, .nil => ⟨.nil, rfl⟩
  | _, d :: ds, _, .cons (.v a) r => by
    obtain ⟨h1, h2⟩ := OwL.unflat r
    exact ⟨.cons a h1, by rw [h2]; rfl⟩
mutual
theorem Ow.nc {K : PySem.W.Frag} {G H : Hp} : ∀ {v : V} {o : O} {fp : List Addr}, Ow K G H v o fp → ∀ a ∈ fp, ∀ c q, H a ≠ some (LamX.CodeO c q)
  | _, _, _, .v _, a, ha => nomatch ha
  | _, _, _, .l hp r, a, ha => by
    rcases List.mem_cons.mp ha with rfl | ha
    · exact nc_of hp
    · exact OwL.nc r a ha
  | _, _, _, .k hp _ r, a, ha => by
    rcases List.mem_cons.mp ha with rfl | ha
    · exact nc_of hp
    · exact OwL.nc r a ha
  | _, _, _, .t hp _ r, a, ha => by
    rcases List.mem_cons.mp ha with rfl | ha
    · exact nc_of hp
    · exact OwL.nc r a ha
  | _, _, _, .u _ r, a, ha => OwL.nc r a ha
theorem OwL.nc {K : PySem.W.Frag} {G H : Hp} : ∀ {vs : List V} {os : List O} {fp : List Addr}, OwL K G H vs os fp → ∀ a ∈ fp, ∀ c q, H a ≠ some (LamX.CodeO c q)
  | _, _, _, .nil, a, ha => nomatch ha
  | _, _, _, .cons x r, a, ha => by
    rcases List.mem_append.mp ha with ha | ha
    · exact Ow.nc x a ha
    · exact OwL.nc r a ha
end
theorem OwL.length {K : PySem.W.Frag} {G H : Hp} : ∀ {vs : List V} {os : List O} {fp : List Addr}, OwL K G H vs os fp → vs.length = os.length
  | _, _, _, .nil => rfl
  | _, _, _, .cons _ b => by simp [OwL.length b]
mutual
theorem Ow.ng {K : PySem.W.Frag} {G H : Hp} : ∀ {v : V} {o : O} {fp : List Addr}, Ow K G H v o fp → ∀ a ∈ fp, ∀ k, H a ≠ some (ghost k)
  | _, _, _, .v _, a, ha => nomatch ha
  | _, _, _, .l hp r, a, ha => by
    rcases List.mem_cons.mp ha with rfl | ha
    · intro k z; rw [hp] at z; cases z
    · exact OwL.ng r a ha
  | _, _, _, .k hp _ r, a, ha => by
    rcases List.mem_cons.mp ha with rfl | ha
    · intro k z; rw [hp] at z; cases z
    · exact OwL.ng r a ha
  | _, _, _, .t hp _ r, a, ha => by
    rcases List.mem_cons.mp ha with rfl | ha
    · intro k z; rw [hp] at z; cases z
    · exact OwL.ng r a ha
  | _, _, _, .u _ r, a, ha => OwL.ng r a ha
theorem OwL.ng {K : PySem.W.Frag} {G H : Hp} : ∀ {vs : List V} {os : List O} {fp : List Addr}, OwL K G H vs os fp → ∀ a ∈ fp, ∀ k, H a ≠ some (ghost k)
  | _, _, _, .nil, a, ha => nomatch ha
  | _, _, _, .cons x r, a, ha => by
    rcases List.mem_append.mp ha with ha | ha
    · exact Ow.ng x a ha
    · exact OwL.ng r a ha
end
inductive Slot where
  | val (d : D)
  | own (xs : List D)
  | tr (o : O)
def Slot.see : Slot → D
  | .val d => d
  | .own xs => .lst xs
  | .tr o => o.toD
def Slot.tree : Slot → Option O
  | .val _ => none
  | .own xs => some (.l (xs.map O.v))
  | .tr o => some o
theorem Slot.see_tree {s : Slot} {o : O} (h : s.tree = some o) : s.see = o.toD := by
  cases s with
  | val d => cases h
  | own xs => cases h; show D.lst xs = .lst (O.toDs (xs.map O.v)); rw [O.toDs_v]
  | tr o => cases h; rfl
abbrev Env2 := List (Option Slot)
def viewAt (ms : List Nat) : Nat → Env2 → Env
  | _, [] => []
  | i, s :: r => (if ms.contains i then s.map Slot.see else none) :: viewAt ms (i + 1) r
def view (ms : List Nat) (ρ : Env2) : Env := viewAt ms 0 ρ
def frzAt (ms : List Nat) : Nat → Env2 → Env2
  | _, [] => []
  | i, s :: r => (if ms.contains i then s.map (fun s => Slot.val s.see) else s) :: frzAt ms (i + 1) r
def frz (ms : List Nat) (ρ : Env2) : Env2 := frzAt ms 0 ρ
theorem viewAt_get (ms : List Nat) : ∀ (ρ : Env2) (k i : Nat), (viewAt ms k ρ)[i]? = ρ[i]?.map fun s => if ms.contains (k + i) then s.map Slot.see else none
  | [], k, i => by simp [viewAt]
  | s :: r, k, 0 => by simp [viewAt]
  | s :: r, k, i + 1 => by
    simp only [viewAt, List.getElem?_cons_succ]
    rw [viewAt_get ms r (k + 1) i, show k + 1 + i = k + (i + 1) by omega]
theorem frzAt_get (ms : List Nat) : ∀ (ρ : Env2) (k i : Nat), (frzAt ms k ρ)[i]? = ρ[i]?.map fun s => if ms.contains (k + i) then s.map (fun s => Slot.val s.see) else s
  | [], k, i => by simp [frzAt]
  | s :: r, k, 0 => by simp [frzAt]
  | s :: r, k, i + 1 => by
    simp only [frzAt, List.getElem?_cons_succ]
    rw [frzAt_get ms r (k + 1) i, show k + 1 + i = k + (i + 1) by omega]
theorem viewAt_len (ms : List Nat) : ∀ (ρ : Env2) (k : Nat), (viewAt ms k ρ).length = ρ.length
  | [], _ => rfl
  | _ :: r, k => by simp [viewAt, viewAt_len ms r]
theorem frzAt_len (ms : List Nat) : ∀ (ρ : Env2) (k : Nat), (frzAt ms k ρ).length = ρ.length
  | [], _ => rfl
  | _ :: r, k => by simp [frzAt, frzAt_len ms r]
theorem view_some {ms : List Nat} {ρ : Env2} {i : Nat} {d : D} (h : (view ms ρ)[i]? = some (some d)) : ms.contains i = true ∧ ∃ s, ρ[i]? = some (some s) ∧ s.see = d := by
  unfold view at h
  rw [viewAt_get, Nat.zero_add] at h
  cases e : ρ[i]? with
  | none => rw [e] at h; cases h
  | some o =>
    rw [e] at h
    simp only [Option.map_some, Option.some.injEq] at h
    cases hc : ms.contains i with
    | false => rw [hc] at h; cases h
    | true =>
      rw [hc] at h
      cases o with
      | none => cases h
      | some s => simp at h; exact ⟨rfl, s, rfl, h⟩
theorem frz_in {ms : List Nat} {ρ : Env2} {i : Nat} {s : Slot} (h : (frz ms ρ)[i]? = some (some s)) : (ms.contains i = true ∧ ∃ s0, ρ[i]? = some (some s0) ∧ s = .val s0.see) ∨ (ms.contains i = false ∧ ρ[i]? = some (some s)) := by
  unfold frz at h
  rw [frzAt_get, Nat.zero_add] at h
  cases e : ρ[i]? with
  | none => rw [e] at h; cases h
  | some o =>
    rw [e] at h
    simp only [Option.map_some, Option.some.injEq] at h
    cases hc : ms.contains i with
    | false => rw [hc] at h; simp at h; exact .inr ⟨rfl, by rw [h]⟩
    | true =>
      rw [hc] at h
      cases o with
      | none => cases h
      | some s0 => simp at h; exact .inl ⟨rfl, s0, rfl, h.symm⟩
structure En where
  G : Hp
  H : Hp
  b : Bs
structure OwnAll (K : PySem.W.Frag) (EH : Hp) (σ : L2.St) (ρ : Env2) (G H : Hp) (b : Bs) (fp : Nat → List Addr) : Prop where
  at_ : ∀ (i : Nat) (s : Slot) (o : O), ρ[i]? = some (some s) → s.tree = some o → ∃ v, σ[i]? = some (some v) ∧ Ow K G H v o (fp i)
  ok : ∀ (i : Nat) (a : Addr), a ∈ fp i → EH a = none ∧ G a = none ∧ ¬ b.hit a ∧ H a ≠ none
  nd : ∀ i, (fp i).Nodup
  dj : ∀ (i j : Nat) (a : Addr), a ∈ fp i → a ∈ fp j → i = j
structure SI (K : PySem.W.Frag) (E : En) (σ : L2.St) (ρ : Env2) (G H : Hp) (b : Bs) : Prop where
  fz : SameF G H
  g0 : Same E.G G
  new : ∀ a o, E.H a = some o → E.G a = none → G a = none
  keep : ∀ a o, E.H a = some o → ¬ E.b.hit a → (EFF.x = true → ∀ k, E.G a ≠ some (ghost k)) → H a = some o
  bag : BagOk G H b
  like : E.b.likeB EFF.x b
  len : ρ.length ≤ σ.length
  val : ∀ (i : Nat) (d : D), ρ[i]? = some (some (Slot.val d)) → ∃ v, σ[i]? = some (some v) ∧ Rp K G v d
  own : ∃ fp : Nat → List Addr, OwnAll K E.H σ ρ G H b fp
section
variable {K : PySem.W.Frag} {E : En} {σ : L2.St} {ρ : Env2} {G H G' H' : Hp} {b b' : Bs}
theorem SI.nxt (I : SI K E σ ρ G H b) : NxtB EFF.x E.G E.H E.b G H b := ⟨I.g0, I.fz, I.keep, I.new, I.bag, I.like⟩
theorem some_of {H : Hp} {a : Addr} (h : H a ≠ none) : ∃ o, H a = some o := by
  cases e : H a with
  | none => exact absurd e h
  | some o => exact ⟨o, rfl⟩
theorem OwnAll.step {fp : Nat → List Addr} (w : OwnAll K E.H σ ρ G H b fp) (n : Nxt G H b G' H' b') : OwnAll K E.H σ ρ G' H' b' fp where
  at_ := fun i s o h1 h2 => by
    obtain ⟨v, h3, h4⟩ := w.at_ i s o h1 h2
    refine ⟨v, h3, h4.mono n.gg fun a ha => ?_⟩
    obtain ⟨_, _, k3, k4⟩ := w.ok i a ha
    obtain ⟨u, hu⟩ := some_of k4
    rw [n.keep a u hu k3, hu]
  ok := fun i a ha => by
    obtain ⟨k1, k2, k3, k4⟩ := w.ok i a ha
    obtain ⟨u, hu⟩ := some_of k4
    refine ⟨k1, n.new a u hu k2, by rw [← Bs.like_at n.like]; exact k3, ?_⟩
    rw [n.keep a u hu k3]
    exact fun z => nomatch z
  nd := w.nd
  dj := w.dj
theorem SI.step (I : SI K E σ ρ G H b) (n : Nxt G H b G' H' b') : SI K E σ ρ G' H' b' := by
  have t := I.nxt.trans n.upB
  refine ⟨t.fz, t.gg, t.new, t.keepB, t.bag, t.like, I.len, fun i d h => ?_, ?_⟩
  · obtain ⟨v, h1, h2⟩ := I.val i d h
    exact ⟨v, h1, h2.mono n.gg⟩
  · obtain ⟨fp, w⟩ := I.own
    exact ⟨fp, w.step n⟩
noncomputable def SI.gp (I : SI K E σ ρ G H b) (ms : List Nat) : Hp := fun a =>
  haveI := Classical.propDecidable ((∃ i : Nat, ms.contains i = true ∧ a ∈ Classical.choose I.own i) ∧ ∀ k, H a ≠ some (ghost k))
  if (∃ i : Nat, ms.contains i = true ∧ a ∈ Classical.choose I.own i) ∧ ∀ k, H a ≠ some (ghost k) then H a else G a
theorem SI.gp_in (I : SI K E σ ρ G H b) {ms : List Nat} {i : Nat} {a : Addr} (h1 : ms.contains i = true) (h2 : a ∈ Classical.choose I.own i) (h3 : ∀ k, H a ≠ some (ghost k)) : I.gp ms a = H a := by
  unfold SI.gp
  exact if_pos ⟨⟨i, h1, h2⟩, h3⟩
theorem SI.gp_out (I : SI K E σ ρ G H b) {ms : List Nat} {a : Addr} (h : ¬ ∃ i : Nat, ms.contains i = true ∧ a ∈ Classical.choose I.own i) : I.gp ms a = G a := by
  unfold SI.gp
  exact if_neg fun z => h z.1
theorem SI.gp_or (I : SI K E σ ρ G H b) (ms : List Nat) (a : Addr) : ((∃ i : Nat, ms.contains i = true ∧ a ∈ Classical.choose I.own i) ∧ (∀ k, H a ≠ some (ghost k)) ∧ I.gp ms a = H a) ∨ I.gp ms a = G a := by
  haveI := Classical.propDecidable ((∃ i : Nat, ms.contains i = true ∧ a ∈ Classical.choose I.own i) ∧ ∀ k, H a ≠ some (ghost k))
  by_cases c : (∃ i : Nat, ms.contains i = true ∧ a ∈ Classical.choose I.own i) ∧ ∀ k, H a ≠ some (ghost k)
  · exact .inl ⟨c.1, c.2, by unfold SI.gp; exact if_pos c⟩
  · exact .inr (by unfold SI.gp; exact if_neg c)
theorem SI.gp1 (I : SI K E σ ρ G H b) (ms : List Nat) : Same G (I.gp ms) := fun a o h => by
  rcases I.gp_or ms a with ⟨⟨i, _, h2⟩, _, _⟩ | e
  · rw [((Classical.choose_spec I.own).ok i a h2).2.1] at h
    cases h
  · rw [e]; exact h
theorem SI.gp2 (I : SI K E σ ρ G H b) (ms : List Nat) : SameF (I.gp ms) H := fun a o h => by
  rcases I.gp_or ms a with ⟨_, _, e⟩ | e
  · rw [e] at h
    exact frOk_of h
  · rw [e] at h
    exact I.fz a o h
theorem SI.gpg (I : SI K E σ ρ G H b) (ms : List Nat) (a : Addr) (k : Nat) (h : I.gp ms a = some (ghost k)) : G a = some (ghost k) := by
  rcases I.gp_or ms a with ⟨_, n, e⟩ | e
  · rw [e] at h
    exact absurd h (n k)
  · rw [← e]; exact h
theorem SI.gpb (I : SI K E σ ρ G H b) (ms : List Nat) : BagOk (I.gp ms) H b := by
  have hg : ∀ a, b.hit a → I.gp ms a = none := fun a z => by
    rw [I.gp_out]
    · exact I.bag.hitG z
    · rintro ⟨i, _, h2⟩
      exact ((Classical.choose_spec I.own).ok i _ h2).2.2.1 z
  exact ⟨I.bag.1.ext (fun a z => hg a (.inl z)) (I.gp1 ms) (fun a z => rfl) (I.gpg ms) (fun a k z => rfl), I.bag.2.ext (fun p hp => hg _ (.inr ⟨p.2, hp⟩)) fun a u h => h⟩
theorem SI.rs (I : SI K E σ ρ G H b) (ms : List Nat) : RS K (I.gp ms) σ (view ms ρ) := by
  refine ⟨by unfold view; rw [viewAt_len]; exact I.len, fun i d h => ?_⟩
  obtain ⟨hm, s, hs, rfl⟩ := view_some h
  cases ht : s.tree with
  | none =>
    cases s with
    | val d =>
      obtain ⟨v, h1, h2⟩ := I.val i d hs
      exact ⟨v, h1, h2.mono (I.gp1 ms)⟩
    | own _ => cases ht
    | tr _ => cases ht
  | some o =>
    obtain ⟨v, h1, h2⟩ := (Classical.choose_spec I.own).at_ i s o hs ht
    refine ⟨v, h1, ?_⟩
    rw [Slot.see_tree ht]
    exact h2.rp (I.gp1 ms) fun a ha => I.gp_in hm ha (h2.ng a ha)
theorem bag_not {a : Addr} {o : HO} (ob : BagOk G H b) (h : G a = some o) : ¬ b.hit a := fun z => by
  rw [ob.hitG z] at h; cases h
theorem BagP.back (l : b.like b') (ob : BagP G H b) (ob' : BagP G' H' b') (ec : ∀ a k, G a = some (ghost k) → H' a = H a) : BagP G H' b' := by
  cases b with
  | none => cases b' with
    | none => exact ob
    | some _ => exact l.elim
  | some g => cases b' with
    | none => exact l.elim
    | some g' =>
      obtain ⟨l1, l2, l3, l4⟩ := l
      refine ⟨by rw [← l1]; exact ob.1, ob'.2.1, ?_, ?_⟩
      · rw [← l2, ← l3]; exact ob.2.2.1
      · rw [← l4 rfl]; exact ob.2.2.2.ext (fun _ _ h => h) (fun _ _ h => h) ec
theorem BagOk.back (l : b.like b') (ob : BagOk G H b) (ob' : BagOk G' H' b') (ec : ∀ a k, G a = some (ghost k) → H' a = H a) : BagOk G H' b' := ⟨ob.1.back l ob'.1 ec, fun p hp => ⟨(ob.2 p hp).1, (ob'.2 p hp).2⟩⟩
theorem SI.stayC {ms : List Nat} (I : SI K E σ ρ G H b) (n : Nxt (I.gp ms) H b G' H' b') (a : Addr) (k : Nat) (h : G a = some (ghost k)) : H' a = H a := by
  obtain ⟨o, e⟩ := I.bag.1.ne h
  rw [n.keep a o e (bag_not I.bag h), e]
theorem SI.flatW (I : SI K E σ ρ G H b) {ms : List Nat} (n : Nxt (I.gp ms) H b G' H' b') : ∃ fp, OwnAll K E.H σ ρ G H' b' fp ∧ ∀ j a, a ∈ fp j → H a ≠ none := by
  obtain ⟨fp, w⟩ := I.own
  refine ⟨fp, ⟨fun i s o h1 h2 => ?_, fun i a ha => ?_, w.nd, w.dj⟩, fun j a ha => (w.ok j a ha).2.2.2⟩
  · obtain ⟨v, h3, h4⟩ := w.at_ i s o h1 h2
    refine ⟨v, h3, h4.mono (fun _ _ h => h) fun a ha => ?_⟩
    obtain ⟨_, _, k3, k4⟩ := w.ok i a ha
    obtain ⟨u, hu⟩ := some_of k4
    rw [n.keep a u hu k3, hu]
  · obtain ⟨k1, k2, k3, k4⟩ := w.ok i a ha
    obtain ⟨u, hu⟩ := some_of k4
    refine ⟨k1, k2, by rw [← Bs.like_at n.like]; exact k3, ?_⟩
    rw [n.keep a u hu k3]
    exact fun z => nomatch z
theorem SI.flat (I : SI K E σ ρ G H b) {ms : List Nat} (n : Nxt (I.gp ms) H b G' H' b') : SI K E σ ρ G H' b' := by
  have nb : ∀ a o, G a = some o → ¬ b.hit a := fun a o h => bag_not I.bag h
  refine ⟨fun a o h => ?_, I.g0, I.new, fun a o h hb hg => n.keep a o (I.keep a o h hb hg) (by rw [← Bs.like_at I.like]; exact hb), ?_, Bs.like_trans I.like (Bs.like_up n.like), I.len, I.val, ?_⟩
  · obtain ⟨u, hu⟩ := some_of (frOk_ne (I.fz a o h))
    have e := n.keep a u hu (nb a o h)
    rw [e, ← hu]
    exact I.fz a o h
  · exact I.bag.back n.like n.bag (I.stayC n)
  · obtain ⟨fp, w, _⟩ := I.flatW n
    exact ⟨fp, w⟩
theorem SI.frzWB (I : SI K E σ ρ G H b) {ms : List Nat} (n : NxtB EFF.x (I.gp ms) H b G' H' b') : ∃ fp, OwnAll K E.H σ (frz ms ρ) G' H' b' fp ∧ ∀ j a, a ∈ fp j → H a ≠ none := by
  have gg : Same G G' := fun a o h => n.gg a o (I.gp1 ms a o h)
  have w := Classical.choose_spec I.own
  have hin : ∀ i a, a ∈ (if ms.contains i = true then [] else Classical.choose I.own i) → ms.contains i = false ∧ a ∈ Classical.choose I.own i := fun i a ha => by
    by_cases hm : ms.contains i = true
    · rw [if_pos hm] at ha; cases ha
    · rw [if_neg hm] at ha; exact ⟨by simpa using hm, ha⟩
  refine ⟨fun i => if ms.contains i = true then [] else Classical.choose I.own i, ⟨fun i s o h1 h2 => ?_, fun i a ha => ?_, fun i => ?_, fun i j a ha hb => w.dj i j a (hin i a ha).2 (hin j a hb).2⟩, fun j a ha => (w.ok j a (hin j a ha).2).2.2.2⟩
  · rcases frz_in h1 with ⟨hm, s0, hs, e⟩ | ⟨hm, hs⟩
    · rw [e] at h2; cases h2
    · obtain ⟨v, h3, h4⟩ := w.at_ i s o hs h2
      show ∃ v, σ[i]? = some (some v) ∧ Ow K G' H' v o (if ms.contains i = true then [] else Classical.choose I.own i)
      rw [if_neg (by rw [hm]; exact Bool.false_ne_true)]
      refine ⟨v, h3, h4.mono gg fun a ha => ?_⟩
      obtain ⟨_, k2, k3, k4⟩ := w.ok i a ha
      obtain ⟨u, hu⟩ := some_of k4
      rw [n.keepB a u hu k3 (fun _ k y => by rw [I.gpg ms a k y] at k2; cases k2), hu]
  · obtain ⟨hm, ha⟩ := hin i a ha
    obtain ⟨k1, k2, k3, k4⟩ := w.ok i a ha
    obtain ⟨u, hu⟩ := some_of k4
    refine ⟨k1, n.new a u hu ?_, by rw [← Bs.like_at n.like]; exact k3, ?_⟩
    · rw [I.gp_out]
      · exact k2
      · rintro ⟨j, hj, h2⟩
        rw [w.dj i j a ha h2, hj] at hm
        cases hm
    · rw [n.keepB a u hu k3 (fun _ k y => by rw [I.gpg ms a k y] at k2; cases k2)]
      exact fun z => nomatch z
  · show (if ms.contains i = true then [] else Classical.choose I.own i).Nodup
    split
    · exact List.nodup_nil
    · exact w.nd i
theorem SI.frzB (I : SI K E σ ρ G H b) {ms : List Nat} (n : NxtB EFF.x (I.gp ms) H b G' H' b') : SI K E σ (frz ms ρ) G' H' b' := by
  have gg : Same G G' := fun a o h => n.gg a o (I.gp1 ms a o h)
  have w := Classical.choose_spec I.own
  refine ⟨n.fz, fun a o h => gg a o (I.g0 a o h), fun a o h hn => ?_, fun a o h hb hg => n.keepB a o (I.keep a o h hb hg) (by rw [← Bs.like_at I.like]; exact hb) (fun z k y => no_ghost I.g0 I.new h (hg z) k (I.gpg ms a k y)), n.bag, Bs.like_trans I.like n.like,
    by unfold DL.frz; rw [frzAt_len]; exact I.len, fun i d h => ?_, ?_⟩
  · by_cases z : E.b.hit a
    · exact n.bag.hitG (by rw [← Bs.like_at n.like, ← Bs.like_at I.like]; exact z)
    · refine n.new a o (I.keep a o h z fun _ k y => by rw [hn] at y; cases y) ?_
      rw [I.gp_out]
      · exact I.new a o h hn
      · rintro ⟨i, _, h2⟩
        rw [(w.ok i a h2).1] at h
        cases h
  · rcases frz_in h with ⟨hm, s0, hs, e⟩ | ⟨hm, hs⟩
    · cases e
      obtain ⟨v, h1, h2⟩ := (I.rs ms).get i s0.see (by
        unfold view
        rw [viewAt_get, hs, Nat.zero_add, hm]
        rfl)
      exact ⟨v, h1, h2.mono n.gg⟩
    · obtain ⟨v, h1, h2⟩ := I.val i d hs
      exact ⟨v, h1, h2.mono gg⟩
  · obtain ⟨fp, w, _⟩ := I.frzWB n
    exact ⟨fp, w⟩
theorem SI.frzW (I : SI K E σ ρ G H b) {ms : List Nat} (n : Nxt (I.gp ms) H b G' H' b') : ∃ fp, OwnAll K E.H σ (frz ms ρ) G' H' b' fp ∧ ∀ j a, a ∈ fp j → H a ≠ none := I.frzWB n.upB
theorem SI.frz (I : SI K E σ ρ G H b) {ms : List Nat} (n : Nxt (I.gp ms) H b G' H' b') : SI K E σ (frz ms ρ) G' H' b' := I.frzB n.upB
theorem set_old {i j : Nat} {s s' : Slot} (hj : i ≠ j) (h : (ρ.set i (some s))[j]? = some (some s')) : ρ[j]? = some (some s') := by
  rw [List.getElem?_set_ne hj] at h; exact h
theorem set_self {i : Nat} {s s' : Slot} (h : (ρ.set i (some s))[i]? = some (some s')) : s' = s ∧ i < ρ.length := by
  by_cases hi : i < ρ.length
  · rw [List.getElem?_set_self hi] at h; cases h; exact ⟨rfl, hi⟩
  · rw [List.getElem?_eq_none (by simpa using hi)] at h; cases h
theorem SI.set (I : SI K E σ ρ G H b) {i : Nat} {v : V} {d : D} (r : Rp K G v d) : SI K E (σ.set i (some v)) (ρ.set i (some (.val d))) G H b := by
  obtain ⟨fp, w⟩ := I.own
  refine ⟨I.fz, I.g0, I.new, I.keep, I.bag, I.like, by simpa using I.len, fun j d' h => ?_, fp, fun j s o h1 h2 => ?_, w.ok, w.nd, w.dj⟩
  · by_cases hj : i = j
    · subst hj
      obtain ⟨e, hi⟩ := set_self h
      cases e
      exact ⟨v, List.getElem?_set_self (Nat.lt_of_lt_of_le hi I.len), r⟩
    · obtain ⟨u, e1, e2⟩ := I.val j d' (set_old hj h)
      exact ⟨u, by rw [List.getElem?_set_ne hj]; exact e1, e2⟩
  · by_cases hj : i = j
    · subst hj
      obtain ⟨e, hi⟩ := set_self h1
      subst e
      cases h2
    · obtain ⟨u, e1, e2⟩ := w.at_ j s o (set_old hj h1) h2
      exact ⟨u, by rw [List.getElem?_set_ne hj]; exact e1, e2⟩
theorem SI.setTree (I : SI K E σ ρ G H b) {i : Nat} {v : V} {s : Slot} {o : O} {fq : List Addr} (hs : s.tree = some o) (hw : Ow K G H v o fq) (nd : fq.Nodup) (ok : ∀ a ∈ fq, E.H a = none ∧ G a = none ∧ ¬ b.hit a ∧ H a ≠ none)
    {fp : Nat → List Addr} (w : OwnAll K E.H σ ρ G H b fp) (dis : ∀ a ∈ fq, ∀ j, a ∉ fp j) : SI K E (σ.set i (some v)) (ρ.set i (some s)) G H b := by
  refine ⟨I.fz, I.g0, I.new, I.keep, I.bag, I.like, by simpa using I.len, fun j d' h => ?_, fun j => if j = i then fq else fp j, fun j s' o' h1 h2 => ?_, fun j a ha => ?_, fun j => ?_, fun j k a ha hb => ?_⟩
  · by_cases hj : i = j
    · subst hj
      obtain ⟨e, hi⟩ := set_self h
      rw [← e] at hs
      cases hs
    · obtain ⟨u, e1, e2⟩ := I.val j d' (set_old hj h)
      exact ⟨u, by rw [List.getElem?_set_ne hj]; exact e1, e2⟩
  · by_cases hj : i = j
    · subst hj
      obtain ⟨e, hi⟩ := set_self h1
      rw [e, hs] at h2
      cases h2
      refine ⟨v, List.getElem?_set_self (Nat.lt_of_lt_of_le hi I.len), ?_⟩
      show Ow K G H v o (if i = i then fq else fp i)
      rw [if_pos rfl]
      exact hw
    · obtain ⟨u, e1, e2⟩ := w.at_ j s' o' (set_old hj h1) h2
      refine ⟨u, by rw [List.getElem?_set_ne hj]; exact e1, ?_⟩
      show Ow K G H u o' (if j = i then fq else fp j)
      rw [if_neg (Ne.symm hj)]
      exact e2
  · have ha : a ∈ (if j = i then fq else fp j) := ha
    split at ha
    · exact ok a ha
    · exact w.ok j a ha
  · show (if j = i then fq else fp j).Nodup
    split
    · exact nd
    · exact w.nd j
  · have ha : a ∈ (if j = i then fq else fp j) := ha
    have hb : a ∈ (if k = i then fq else fp k) := hb
    split at ha
    · rename_i ej
      split at hb
      · rename_i ek; rw [ej, ek]
      · rename_i nk; exact absurd hb (dis a ha k)
    · rename_i nj
      split at hb
      · exact absurd ha (dis a hb j)
      · exact w.dj j k a ha hb
theorem SI.retree (I : SI K E σ ρ G H b) {i : Nat} {s s' : Slot} {o o' : O} (hi : ρ[i]? = some (some s)) (hs' : s'.tree = some o') {v : V} (hv : σ[i]? = some (some v)) {fq : List Addr} {fp : Nat → List Addr} (w : OwnAll K E.H σ ρ G H b fp)
    (hw : Ow K G H' v o' fq) (nd : fq.Nodup) (sub : ∀ a ∈ fq, (a ∈ fp i ∧ H' a ≠ none) ∨ (H a = none ∧ H' a ≠ none)) (same : ∀ a, a ∉ fp i → H a ≠ none → H' a = H a) (hst : s.tree = some o := by rfl) : SI K E σ (ρ.set i (some s')) G H' b := by
  have hil : i < ρ.length := (List.getElem?_eq_some_iff.mp hi).1
  have out : ∀ a o, G a = some o → a ∉ fp i := fun a o h hf => by
    rw [(w.ok i a hf).2.1] at h; cases h
  have kp : ∀ a o, a ∉ fp i → H a = some o → H' a = some o := fun a o hf h => by
    rw [same a hf (by rw [h]; exact fun z => nomatch z)]; exact h
  refine ⟨fun a o h => ?_, I.g0, I.new, fun a o h hb hg => ?_, ?_, I.like, by simpa using I.len, fun j d' h => ?_, fun j => if j = i then fq else fp j, fun j s2 o2 h1 h2 => ?_, fun j a ha => ?_, fun j => ?_, fun j k a ha hb => ?_⟩
  · obtain ⟨u, hu⟩ := some_of (frOk_ne (I.fz a o h))
    rw [kp a u (out a o h) hu, ← hu]
    exact I.fz a o h
  · refine kp a o (fun hf => ?_) (I.keep a o h hb hg)
    rw [(w.ok i a hf).1] at h; cases h
  · obtain ⟨v1, _, w1⟩ := w.at_ i _ _ hi hst
    refine ⟨I.bag.1.ext (fun a z => I.bag.hitG (.inl z)) (fun _ _ h => h) (fun a z => ?_) (fun _ _ h => h) (fun a k z => ?_), fun p hp => ⟨(I.bag.2 p hp).1, ?_⟩⟩
    · obtain ⟨u, hu⟩ := I.bag.hitH (.inl z)
      exact same a (fun hf => (w.ok i a hf).2.2.1 (.inl z)) (by rw [hu]; exact fun z => nomatch z)
    · obtain ⟨u, hu⟩ := I.bag.1.ne z
      exact same a (out a _ z) (by rw [hu]; exact fun z => nomatch z)
    · obtain ⟨ps, h1, h2, h3⟩ := (I.bag.2 p hp).2
      refine ⟨ps, kp _ _ (fun hf => (w.ok i _ hf).2.2.1 (.inr ⟨p.2, hp⟩)) h1, h2, fun pos cv hc => ?_⟩
      obtain ⟨c, e1, e2⟩ := h3 pos cv hc
      exact ⟨c, e1, kp _ _ (fun hf => w1.nc _ hf _ _ e2) e2⟩
  · by_cases hj : i = j
    · subst hj
      obtain ⟨e, _⟩ := set_self h
      rw [← e] at hs'
      cases hs'
    · exact I.val j d' (set_old hj h)
  · by_cases hj : i = j
    · subst hj
      obtain ⟨e, _⟩ := set_self h1
      rw [e, hs'] at h2
      cases h2
      refine ⟨v, hv, ?_⟩
      show Ow K G H' v o' (if i = i then fq else fp i)
      rw [if_pos rfl]
      exact hw
    · obtain ⟨u, e1, e2⟩ := w.at_ j s2 o2 (set_old hj h1) h2
      refine ⟨u, e1, ?_⟩
      show Ow K G H' u o2 (if j = i then fq else fp j)
      rw [if_neg (Ne.symm hj)]
      refine e2.mono (fun _ _ h => h) fun a ha => same a (fun hf => hj (w.dj i j a hf ha)) (w.ok j a ha).2.2.2
  · have ha : a ∈ (if j = i then fq else fp j) := ha
    split at ha
    · rcases sub a ha with ⟨h1, h2⟩ | ⟨h1, h2⟩
      · obtain ⟨k1, k2, k3, _⟩ := w.ok i a h1
        exact ⟨k1, k2, k3, h2⟩
      · exact ⟨I.nxt.free h1, gnone I.fz h1, bag_ne I.bag h1, h2⟩
    · rename_i nj
      obtain ⟨k1, k2, k3, k4⟩ := w.ok j a ha
      refine ⟨k1, k2, k3, ?_⟩
      rw [same a (fun hf => nj (w.dj i j a hf ha).symm) k4]
      exact k4
  · show (if j = i then fq else fp j).Nodup
    split
    · exact nd
    · exact w.nd j
  · have ha : a ∈ (if j = i then fq else fp j) := ha
    have hb : a ∈ (if k = i then fq else fp k) := hb
    have cross : ∀ j a, a ∈ fq → j ≠ i → a ∉ fp j := fun j a h1 h2 h3 => by
      rcases sub a h1 with ⟨h4, _⟩ | ⟨h4, _⟩
      · exact h2 (w.dj i j a h4 h3).symm
      · exact (w.ok j a h3).2.2.2 h4
    split at ha
    · rename_i ej
      split at hb
      · rename_i ek; rw [ej, ek]
      · rename_i nk; exact absurd hb (cross k a ha nk)
    · rename_i nj
      split at hb
      · exact absurd ha (cross j a hb nj)
      · exact w.dj j k a ha hb
theorem SI.ownL (I : SI K E σ ρ G H b) {i : Nat} {xs : List D} (h : ρ[i]? = some (some (.own xs))) : ∃ (p : Addr) (vs : List V), σ[i]? = some (some (V.ref p)) ∧ E.H p = none ∧ G p = none ∧ H p = some (.lst vs) ∧ RpL K G vs xs ∧ ¬ b.hit p := by
  obtain ⟨fp, w⟩ := I.own
  obtain ⟨v, h1, h2⟩ := w.at_ i _ _ h rfl
  generalize hf : fp i = fq at h2
  cases h2 with
  | @l p vs _ fp' hp r =>
    obtain ⟨k1, k2, k3, k4⟩ := w.ok i p (by rw [hf]; exact List.mem_cons_self)
    exact ⟨p, vs, h1, k1, k2, hp, r.unflat.1, k3⟩
theorem SI.mut (I : SI K E σ ρ G H b) {i : Nat} {p : Addr} {vs : List V} {xs ys : List D} (hi : ρ[i]? = some (some (.own xs))) (hs : σ[i]? = some (some (.ref p))) (r : RpL K G vs ys) : SI K E σ (ρ.set i (some (.own ys))) G (upd H p (.lst vs)) b := by
  obtain ⟨fp, w⟩ := I.own
  obtain ⟨v, h1, h2⟩ := w.at_ i _ _ hi rfl
  rw [hs] at h1
  cases h1
  have hp : p ∈ fp i := by
    generalize hf : fp i = fq at h2
    cases h2
    exact List.mem_cons_self
  refine I.retree (s' := .own ys) (fq := [p]) hi rfl hs w (.l upd_same (OwL.flat r)) (by simp) (fun a ha => ?_) (fun a hf _ => upd_ne fun z => hf (by rw [z]; exact hp))
  simp at ha
  subst ha
  exact .inl ⟨hp, by rw [upd_same]; exact fun z => nomatch z⟩
def setAll2 (ρ : Env2) : List (Nat × D) → Env2
  | [] => ρ
  | (i, d) :: r => setAll2 (ρ.set i (some (.val d))) r
theorem SI.setAll : ∀ {lv : List (Nat × V)} {l : List (Nat × D)} {σ : L2.St} {ρ : Env2}, RpP K G lv l → SI K E σ ρ G H b → SI K E (setAll σ lv) (setAll2 ρ l) G H b
  | _, _, _, _, .nil, h => h
  | (i, v) :: lv, (j, d) :: l, σ, ρ, .cons ⟨e, r⟩ p, h => by
    have e : i = j := e
    subst e
    exact SI.setAll (lv := lv) (l := l) p (h.set r)
theorem SI.up (I : SI K E σ ρ G H b) : SI K ⟨G, E.H, E.b⟩ σ ρ G H b := ⟨I.fz, fun _ _ h => h, fun a o _ h => h, fun a o h hb hg => I.keep a o h hb fun z k y => hg z k (I.g0 _ _ y), I.bag, I.like, I.len, I.val, I.own⟩ 
theorem SI.down {G1 H1 : Hp} {b1 : Bs} {σ1 : L2.St} {ρ1 : Env2} (I : SI K E σ1 ρ1 G1 H1 b1) (J : SI K ⟨G1, E.H, E.b⟩ σ ρ G H b) : SI K E σ ρ G H b :=
  ⟨J.fz, fun a o h => J.g0 a o (I.g0 a o h), fun a o h hn => J.new a o h (I.new a o h hn), fun a o h hb hg => J.keep a o h hb fun z => no_ghost I.g0 I.new h (hg z), J.bag, J.like, J.len, J.val, J.own⟩
theorem SI.downN {G1 H1 : Hp} {b1 : Bs} {σ1 : L2.St} {ρ1 : Env2} (I : SI K E σ1 ρ1 G1 H1 b1) (n : NxtB EFF.x G1 E.H E.b G' H' b') : NxtB EFF.x E.G E.H E.b G' H' b' :=
  ⟨fun a o h => n.gg a o (I.g0 a o h), n.fz, fun a o h hb hg => n.keepB a o h hb fun z => no_ghost I.g0 I.new h (hg z), fun a o h hn => n.new a o h (I.new a o h hn), n.bag, n.like⟩
end
inductive Out where
  | nx (ρ : Env2) | rt (d : D) | rn (xs : List D) | bk (ρ : Env2) | ct (ρ : Env2)
def Fin (K : PySem.W.Frag) (E : En) (Dn : Ends) (b' : Bs) : Out → Prop
  | .nx ρ => ∀ σ' G' H', SI K E σ' ρ G' H' b' → Dn.nx σ' H'
  | .bk ρ => ∀ σ' G' H', SI K E σ' ρ G' H' b' → Dn.bk σ' H'
  | .ct ρ => ∀ σ' G' H', SI K E σ' ρ G' H' b' → Dn.ct σ' H'
  | .rt d => ∀ v G' H', NxtB EFF.x E.G E.H E.b G' H' b' → Rp K G' v d → Dn.rt v H'
  | .rn xs => ∀ p vs G' H', NxtB EFF.x E.G E.H E.b G' H' b' → E.H p = none → G' p = none → H' p = some (.lst vs) → RpL K G' vs xs → Dn.rt (.ref p) H'
def tS (K : PySem.W.Frag) (F : Env2 → M Out) : TS := fun Dn σ H => ∃ E ρ G b o b', SI K E σ ρ G H b ∧ F ρ b = some (o, b') ∧ Fin K E Dn b' o
abbrev DS (X : Cx) (st : Stmt) (F : Env2 → M Out) : Prop := PS X st (tS X.K F)
abbrev DSs (X : Cx) (st : List Stmt) (F : Env2 → M Out) : Prop := PSs X st (tS X.K F)
theorem PSimp {X : Cx} {e : Stmt} {t t' : TS} (h : PS X e t) (i : ∀ D σ H, t' D σ H → t D σ H) : PS X e t' := ⟨fun pins s σ H D I q => h.run pins s σ H D I (i D σ H q)⟩
theorem PSsimp {X : Cx} {e : List Stmt} {t t' : TS} (h : PSs X e t) (i : ∀ D σ H, t' D σ H → t D σ H) : PSs X e t' := ⟨fun pins s σ H D I q => h.run pins s σ H D I (i D σ H q)⟩
def seqM (F1 F2 : Env2 → M Out) (ρ : Env2) : M Out := M.bind (F1 ρ) fun o => match o with
  | .nx ρ1 => F2 ρ1
  | o => M.ret o
section
variable {X : Cx} {st : Stmt} {rest : List Stmt} {F F2 : Env2 → M Out} {pos : Pos}
theorem ss_nil : DSs X [] (fun ρ => M.ret (.nx ρ)) := by
  refine PSsimp pss_nil ?_
  rintro D σ H ⟨E, ρ, G, b, o, b', I, e, q⟩
  cases e
  exact q σ G H I
theorem ss_one (h : DS X st F) : DSs X [st] F := pss_one h
theorem ss_cons (h : DS X st F) (h2 : DSs X rest F2) : DSs X (st :: rest) (seqM F F2) := by
  refine PSsimp (pss_cons h h2) ?_
  rintro D σ H ⟨E, ρ, G, b, o, b', I, e, q⟩
  obtain ⟨o1, b1, e1, e2⟩ := M.bind_some e
  refine ⟨E, ρ, G, b, o1, b1, I, e1, ?_⟩
  cases o1 with
  | nx ρ1 => exact fun σ' G' H' I' => ⟨E, ρ1, G', b1, o, b', I', e2, q⟩
  | bk ρ1 => cases e2; exact q
  | ct ρ1 => cases e2; exact q
  | rt d => cases e2; exact q
  | rn xs => cases e2; exact q
def ifM (ms : List Nat) (t : Env → M Bool) (F F2 : Env2 → M Out) (ρ : Env2) : M Out := M.bind (t (view ms ρ)) fun k => if k = true then F ρ else F2 ρ
theorem s_if (ms : List Nat) {c : Expr} {a b : List Stmt} {t : Env → M Bool} (hc : DT X c t) (ha : DSs X a F) (hb : DSs X b F2) : DS X (.If c a b pos) (ifM ms t F F2) := by
  refine PSimp (ps_if hc ha hb) ?_
  rintro D σ H ⟨E, ρ, G, b, o, b', I, e, q⟩
  obtain ⟨k, b1, e1, e2⟩ := M.bind_some e
  refine ⟨_, _, b, k, b1, I.rs ms, I.gp2 ms, I.gpb ms, e1, fun G1 H1 n1 => ?_⟩
  have I1 := I.flat n1
  cases k with
  | true => exact iteT ⟨E, ρ, G, b1, o, b', I1, e2, q⟩
  | false => exact iteF ⟨E, ρ, G, b1, o, b', I1, e2, q⟩
def keepIf (c : Bool) (ms : List Nat) (ρ : Env2) : Env2 := if c = true then ρ else frz ms ρ
theorem SI.after {K : PySem.W.Frag} {E : En} {σ : L2.St} {ρ : Env2} {G H G' H' : Hp} {b b' : Bs} (I : SI K E σ ρ G H b) {ms : List Nat} (n : Nxt (I.gp ms) H b G' H' b') {v : V} {d : D} (r : Rp K G' v d) :
    ∃ G2, SI K E σ (keepIf d.flat ms ρ) G2 H' b' ∧ Rp K G2 v d := by
  unfold keepIf
  cases e : d.flat with
  | true => exact ⟨G, I.flat n, r.flat_any e⟩
  | false => exact ⟨G', I.frz n, r⟩
def setM (i : Nat) (ms : List Nat) (f : Env → M D) (ρ : Env2) : M Out := M.bind (f (view ms ρ)) fun d => M.ret (.nx ((keepIf d.flat ms ρ).set i (some (.val d))))
theorem s_set (i : Nat) (ms : List Nat) {x : Str} {e : Expr} {f : Env → M D} {pos' : Pos} (hN : X.N.Nodup) (hi : X.N[i]? = some x) (hx : Loc X.env.scope x) (he : DE X e f) (hs : swapsWith e (some (.Name x pos')) pos.line X.env = pure false := by rfl)
    (hf : X.fn x = true ∨ X.env.scope.names.lookup x = some .local := by first | exact .inl rfl | exact .inr rfl | assumption) : DS X (.Assign [.Name x pos'] e pos) (setM i ms f) := by
  refine PSimp (ps_set hN hi hx he hs hf) ?_
  rintro D σ H ⟨E, ρ, G, b, o, b', I, e, q⟩
  obtain ⟨d, b1, e1, e2⟩ := M.bind_some e
  cases e2
  refine ⟨_, _, b, d, b', I.rs ms, I.gp2 ms, I.gpb ms, e1, fun v G1 H1 n1 r => ?_⟩
  obtain ⟨G2, I2, r2⟩ := I.after n1 r
  exact q _ G2 H1 (I2.set r2)
theorem SI.fresh {K : PySem.W.Frag} {E : En} {σ : L2.St} {ρ : Env2} {G H : Hp} {b : Bs} (I : SI K E σ ρ G H b) {p : Addr} (hp : H p = none) : E.H p = none := I.nxt.free hp
theorem SI.afterN {K : PySem.W.Frag} {E : En} {σ : L2.St} {ρ : Env2} {G H G' H' : Hp} {b b' : Bs} (I : SI K E σ ρ G H b) {ms : List Nat} (n : Nxt (I.gp ms) H b G' H' b') {vs : List V} {xs : List D} (r : RpL K G' vs xs) {p : Addr} (gn : G' p = none) (hp : H p = none) :
    ∃ G2, SI K E σ (keepIf (xs.all D.flat) ms ρ) G2 H' b' ∧ RpL K G2 vs xs ∧ G2 p = none ∧ ∃ fp, OwnAll K E.H σ (keepIf (xs.all D.flat) ms ρ) G2 H' b' fp ∧ ∀ j a, a ∈ fp j → H a ≠ none := by
  unfold keepIf
  cases e : xs.all D.flat with
  | true => exact ⟨G, I.flat n, r.flat_any e, gnone I.fz hp, I.flatW n⟩
  | false => exact ⟨G', I.frz n, r, gn, I.frzW n⟩
def setNM (i : Nat) (ms : List Nat) (f : Env → M (List D)) (ρ : Env2) : M Out := M.bind (f (view ms ρ)) fun xs => M.ret (.nx ((keepIf (xs.all D.flat) ms ρ).set i (some (.own xs))))
theorem keepIf_own {c : Bool} {ms : List Nat} {ρ : Env2} {j : Nat} {ys : List D} (h : (keepIf c ms ρ)[j]? = some (some (.own ys))) : ρ[j]? = some (some (.own ys)) := by
  unfold keepIf at h
  cases c with
  | true => exact h
  | false =>
    rcases frz_in (show (frz ms ρ)[j]? = _ from h) with ⟨_, s0, _, e⟩ | ⟨_, e⟩
    · cases e
    · exact e
theorem SI.newOwn {K : PySem.W.Frag} {E : En} {σ : L2.St} {ρ : Env2} {G H G' H' : Hp} {b b' : Bs} (I : SI K E σ ρ G H b) {ms : List Nat} (n : Nxt (I.gp ms) H b G' H' b') {vs : List V} {xs : List D} (i : Nat) {p : Addr} (hp : H p = none) (gn : G' p = none) (hh : H' p = some (.lst vs)) (r : RpL K G' vs xs) :
    ∃ G2, SI K E (σ.set i (some (.ref p))) ((keepIf (xs.all D.flat) ms ρ).set i (some (.own xs))) G2 H' b' := by
  obtain ⟨G2, I2, r2, g2, fp, w, fr⟩ := I.afterN n r gn hp
  refine ⟨G2, I2.setTree (s := .own xs) (fq := [p]) rfl (.l hh (OwL.flat r2)) (by simp) (fun a ha => ?_) w fun a ha j hf => ?_⟩
  · simp at ha
    subst ha
    exact ⟨I.fresh hp, g2, by rw [← Bs.like_at n.like]; exact bag_ne I.bag hp, by rw [hh]; exact fun z => nomatch z⟩
  · simp at ha
    subst ha
    exact fr j a hf hp
theorem s_setN (i : Nat) (ms : List Nat) {x : Str} {e : Expr} {f : Env → M (List D)} {pos' : Pos} (hN : X.N.Nodup) (hi : X.N[i]? = some x) (hx : Loc X.env.scope x) (he : DN X e f) (hs : swapsWith e (some (.Name x pos')) pos.line X.env = pure false := by rfl)
    (hf : X.fn x = true ∨ X.env.scope.names.lookup x = some .local := by first | exact .inl rfl | exact .inr rfl | assumption) : DS X (.Assign [.Name x pos'] e pos) (setNM i ms f) := by
  refine PSimp (ps_set hN hi hx he hs hf) ?_
  rintro D σ H ⟨E, ρ, G, b, o, b', I, e, q⟩
  obtain ⟨xs, b1, e1, e2⟩ := M.bind_some e
  cases e2
  refine ⟨_, _, b, xs, b', I.rs ms, I.gp2 ms, I.gpb ms, e1, fun p vs G1 H1 n1 hp gn hh r => ?_⟩
  obtain ⟨G2, I2⟩ := I.newOwn n1 i hp gn hh r
  exact q _ G2 H1 I2
def retM (ms : List Nat) (f : Env → M D) (ρ : Env2) : M Out := M.bind (f (view ms ρ)) fun d => M.ret (.rt d)
theorem s_ret (ms : List Nat) {e : Expr} {f : Env → M D} (he : DE X e f) : DS X (.Return (some e) pos) (retM ms f) := by
  refine PSimp (ps_ret he) ?_
  rintro D σ H ⟨E, ρ, G, b, o, b', I, e, q⟩
  obtain ⟨d, b1, e1, e2⟩ := M.bind_some e
  cases e2
  exact ⟨_, _, b, d, b', I.rs ms, I.gp2 ms, I.gpb ms, e1, fun v G1 H1 n1 r => q v G1 H1 (I.frz n1).nxt r⟩
def retNM (ms : List Nat) (f : Env → M (List D)) (ρ : Env2) : M Out := M.bind (f (view ms ρ)) fun d => M.ret (.rn d)
theorem s_retN (ms : List Nat) {e : Expr} {f : Env → M (List D)} (he : DN X e f) : DS X (.Return (some e) pos) (retNM ms f) := by
  refine PSimp (ps_ret he) ?_
  rintro D σ H ⟨E, ρ, G, b, o, b', I, e, q⟩
  obtain ⟨xs, b1, e1, e2⟩ := M.bind_some e
  cases e2
  exact ⟨_, _, b, xs, b', I.rs ms, I.gp2 ms, I.gpb ms, e1, fun p vs G1 H1 n1 hp gn hh r => q p vs G1 H1 (I.frz n1).nxt (I.fresh hp) gn hh r⟩
def dropM (ms : List Nat) (f : Env → M D) (ρ : Env2) : M Out := M.bind (f (view ms ρ)) fun _ => M.ret (.nx ρ)
def loopM (bs : D → Option (List (Nat × D))) (body : Env2 → M Out) : List D → Env2 → M Out
  | [], ρ => M.ret (.nx ρ)
  | x :: xs, ρ => match bs x with
    | none => M.fail
    | some l => M.bind (body (setAll2 ρ l)) fun o => match o with
      | .nx ρ' => loopM bs body xs ρ'
      | .ct ρ' => loopM bs body xs ρ'
      | .bk ρ' => M.ret (.nx ρ')
      | .rt d => M.ret (.rt d)
      | .rn ys => M.ret (.rn ys)
theorem Fin.up {K : PySem.W.Frag} {E : En} {σ1 : L2.St} {ρ1 : Env2} {G1 H1 : Hp} {b1 : Bs} {D : Ends} {b' : Bs} {o : Out} (I : SI K E σ1 ρ1 G1 H1 b1) (q : Fin K E D b' o) : Fin K ⟨G1, E.H, E.b⟩ D b' o := by
  cases o with
  | nx ρ => exact fun σ' G' H' J => q σ' G' H' (I.down J)
  | bk ρ => exact fun σ' G' H' J => q σ' G' H' (I.down J)
  | ct ρ => exact fun σ' G' H' J => q σ' G' H' (I.down J)
  | rt d => exact fun v G' H' n r => q v G' H' (I.downN n) r
  | rn xs => exact fun p vs G' H' n => q p vs G' H' (I.downN n)
theorem loop_f {K : PySem.W.Frag} {J : It} {g : TG} {bs : D → Option (List (Nat × D))} {is : List Nat} {body : Env2 → M Out} (tg : TgOk K g bs is) {E : En} {xs : List D} {G1 : Hp} (hG : Same G1 E.G) (yl : Yl K G1 J xs) {D : Ends} {σ : L2.St} {ρ : Env2} {G H : Hp} {b b' : Bs} {o : Out}
    (I : SI K E σ ρ G H b) (e : loopM bs body xs ρ b = some (o, b')) (q : Fin K E D b' o) :
    ∃ W : Nat → Nat → L2.St → Hp → Prop, (∃ m, W 0 m σ H) ∧ ∀ i m σ H, W i m σ H →
      (J.stop i H ∧ D.nx σ H) ∨ (J.go i H ∧ ∃ N : L2.St → Hp → Prop, (∀ σ' H', N σ' H' → ∃ m', m' < m ∧ W (i + 1) m' σ' H') ∧ ∀ x H', J.yld i H x H' → g x σ H' fun σ2 H2 => tS K body { D with nx := N, ct := N, bk := D.nx } σ2 H2) := by
  refine ⟨fun i m σ H => m = xs.length - i ∧ i ≤ xs.length ∧ ∃ ρ G b, SI K E σ ρ G H b ∧ loopM bs body (xs.drop i) ρ b = some (o, b'), ⟨xs.length, by simp, Nat.zero_le _, ρ, G, b, I, by simpa using e⟩, ?_⟩
  rintro i m σ2 H2 ⟨rfl, hi, ρ2, G2, b2, I2, e2⟩
  have Y := yl i G2 H2 b2 (fun a o h => I2.g0 a o (hG a o h)) I2.fz I2.bag
  by_cases hlt : i < xs.length
  · have hx : xs[i]? = some xs[i] := List.getElem?_eq_getElem hlt
    have hdr : xs.drop i = xs[i] :: xs.drop (i + 1) := List.drop_eq_getElem_cons hlt
    obtain ⟨hgo, hy⟩ := Y.1 _ hx
    refine .inr ⟨hgo, fun σ3 H3 => ∃ ρ G b, SI K E σ3 ρ G H3 b ∧ loopM bs body (xs.drop (i + 1)) ρ b = some (o, b'), fun σ' H' h' => ⟨xs.length - (i + 1), by omega, rfl, hlt, h'⟩, fun x H3 hyl => ?_⟩
    obtain ⟨G3, n3, rx⟩ := hy x H3 hyl
    rw [hdr] at e2
    unfold loopM at e2
    cases eb : bs xs[i] with
    | none => rw [eb] at e2; cases e2
    | some l =>
      rw [eb] at e2
      obtain ⟨lv, pl, il, gq⟩ := tg G3 x xs[i] l rx eb
      refine gq H3 _ _ n3.fz ?_
      obtain ⟨o1, b3, e3, e4⟩ := M.bind_some e2
      refine ⟨E, _, G3, b2, o1, b3, SI.setAll pl (I2.step n3), e3, ?_⟩
      cases o1 with
      | nx ρ' => exact fun σ' G' H' I' => ⟨ρ', G', b3, I', e4⟩
      | ct ρ' => exact fun σ' G' H' I' => ⟨ρ', G', b3, I', e4⟩
      | bk ρ' => cases e4; exact q
      | rt d => cases e4; exact q
      | rn ys => cases e4; exact q
  · have ee : i = xs.length := by omega
    subst ee
    refine .inl ⟨Y.2 (Nat.le_refl _), ?_⟩
    have hr : xs.drop xs.length = [] := by simp
    rw [hr] at e2
    cases e2
    exact q σ2 G2 H2 I2
def forA (ms : List Nat) (gi : Env → M (List D)) (bs : D → Option (List (Nat × D))) (body : Env2 → M Out) (ρ : Env2) : M Out := M.bind (gi (view ms ρ)) fun xs => loopM bs body xs (frz ms ρ)
def forRM (ms : List Nat) (gi : Env → M (List D)) (bs : D → Option (List (Nat × D))) (body : Env2 → M Out) (ρ : Env2) : M Out := M.bind (gi (view ms ρ)) fun xs => loopM bs body xs ρ
theorem s_for (ms : List Nat) {tg iter : Expr} {body : List Stmt} {gi : Env → M (List D)} {g : TG} {bs : D → Option (List (Nat × D))} {is : List Nat} {Fb : Env2 → M Out} (hp : PassesOwn (model X.prog X.w) X.A X.env X.xe) (hc : X.calm = true) (hi : DI X tg iter gi) (hg : PG X tg g) (ht : TgOk X.K g bs is) (hb : DSs X body Fb)
    (hs : ∀ x, foldedSetIterable iter X.env x = pure x := by intro _; rfl) : DS X (.For tg iter body [] pos) (forA ms gi bs Fb) := by
  refine PSimp (ps_for hp hc hi hg hb hs) ?_
  rintro D σ H ⟨E, ρ, G, b, o, b', I, e, q⟩
  obtain ⟨xs, b1, e1, e2⟩ := M.bind_some e
  refine ⟨_, _, b, xs, b1, I.rs ms, I.gp2 ms, I.gpb ms, e1, fun J G1 H1 n1 yl => ?_⟩
  have I1 := I.frz n1
  exact loop_f (E := ⟨G1, E.H, E.b⟩) ht (fun _ _ h => h) yl I1.up e2 (q.up I1)
theorem s_forR (ms : List Nat) {tg iter : Expr} {body : List Stmt} {gi : Env → M (List D)} {g : TG} {bs : D → Option (List (Nat × D))} {is : List Nat} {Fb : Env2 → M Out} (hp : PassesOwn (model X.prog X.w) X.A X.env X.xe) (hc : X.calm = true) (hi : DR X tg iter gi) (hg : PG X tg g) (ht : TgOk X.K g bs is) (hb : DSs X body Fb)
    (hs : ∀ x, foldedSetIterable iter X.env x = pure x := by intro _; rfl) : DS X (.For tg iter body [] pos) (forRM ms gi bs Fb) := by
  refine PSimp (ps_for hp hc hi hg hb hs) ?_
  rintro D σ H ⟨E, ρ, G, b, o, b', I, e, q⟩
  obtain ⟨xs, b1, e1, e2⟩ := M.bind_some e
  refine ⟨_, _, b, xs, b1, I.rs ms, I.gp2 ms, I.gpb ms, e1, fun J G1 H1 n1 yl => ?_⟩
  exact loop_f ht (fun _ _ h => by cases h) yl (I.flat n1) e2 q
def whileM (ms : List Nat) (t : Env → M Bool) (body : Env2 → M Out) : Nat → Env2 → M Out
  | 0, _ => M.fail
  | n + 1, ρ => M.bind (t (view ms ρ)) fun k => if k = true then M.bind (body ρ) fun o => match o with
      | .nx ρ' => whileM ms t body n ρ'
      | .ct ρ' => whileM ms t body n ρ'
      | .bk ρ' => M.ret (.nx ρ')
      | .rt d => M.ret (.rt d)
      | .rn ys => M.ret (.rn ys)
    else M.ret (.nx ρ)
theorem s_while (fuel : Nat) (ms : List Nat) {c : Expr} {body : List Stmt} {t : Env → M Bool} {Fb : Env2 → M Out} (hp : PassesOwn (model X.prog X.w) X.A X.env X.xe) (hc : DT X c t) (hb : DSs X body Fb) : DS X (.While c body [] pos) (whileM ms t Fb fuel) := by
  refine PSimp (ps_while hp hc hb) ?_
  rintro D σ H ⟨E, ρ, G, b, o, b', I, e, q⟩
  refine ⟨fun m σ H => ∃ ρ G b, SI X.K E σ ρ G H b ∧ whileM ms t Fb m ρ b = some (o, b'), ⟨fuel, ρ, G, b, I, e⟩, ?_⟩
  rintro m σ2 H2 ⟨ρ2, G2, b2, I2, e2⟩
  cases m with
  | zero => cases e2
  | succ m =>
    unfold whileM at e2
    obtain ⟨k, b1, e1, e3⟩ := M.bind_some e2
    refine ⟨_, _, b2, k, b1, I2.rs ms, I2.gp2 ms, I2.gpb ms, e1, fun G1 H1 n1 => ?_⟩
    have I1 := I2.flat n1
    cases k with
    | false => cases e3; exact iteF (q σ2 _ _ I1)
    | true =>
      refine iteT ?_
      obtain ⟨o1, b3, e4, e5⟩ := M.bind_some e3
      refine ⟨fun σ3 H3 => ∃ ρ G b, SI X.K E σ3 ρ G H3 b ∧ whileM ms t Fb m ρ b = some (o, b'), fun σ' H' h' => ⟨m, Nat.lt_succ_self _, h'⟩, E, ρ2, G2, b1, o1, b3, I1, e4, ?_⟩
      cases o1 with
      | nx ρ' => exact fun σ' G' H' I' => ⟨ρ', G', b3, I', e5⟩
      | ct ρ' => exact fun σ' G' H' I' => ⟨ρ', G', b3, I', e5⟩
      | bk ρ' => cases e5; exact q
      | rt d => cases e5; exact q
      | rn ys => cases e5; exact q
end
end DL
set_option Elab.async false
set_option maxRecDepth 100000
set_option autoImplicit false
set_option linter.unusedVariables false
set_option maxHeartbeats 4000000
namespace DL
open PySem L2
variable [TAB : TabList]
variable [EFF : Eff]
set_option linter.unusedSectionVars false
theorem q_newL {K : PySem.W.Frag} {G H : Hp} {b : Bs} {Q : VK} {vs : List V} {ds : List D} {p : Addr} (fz : SameF G H) (ob : BagOk G H b) (hp : H p = none) (r : RpL K G vs ds) (q : ∀ v G' H', Nxt G H b G' H' b → Rp K G' v (.lst ds) → Q v H') : Q (.ref p) (upd H p (.lst vs)) := by
  have m := Nxt.newF (o := .lst vs) fz ob hp
  exact q _ _ _ m (.lst upd_same (r.mono m.gg))
theorem q_newT {K : PySem.W.Frag} {G H : Hp} {b : Bs} {Q : VK} {vs : List V} {ds : List D} {p : Addr} (fz : SameF G H) (ob : BagOk G H b) (hp : H p = none) (r : RpL K G vs ds) (q : ∀ v G' H', Nxt G H b G' H' b → Rp K G' v (.tup ds) → Q v H') : Q (.ref p) (upd H p (.tup vs)) := by
  have m := Nxt.newF (o := .tup vs) fz ob hp
  exact q _ _ _ m (.tup (SqT.of upd_same) (r.mono m.gg))
theorem szStr (x : List Nat) : (⟨x.toArray⟩ : Str).length = x.length := by simp [Str.length]
def szS (n : Nat) : Bool := decide (n ≤ sizeLine)
section
variable {X : Cx} {a b : Expr} {f g : Env → M D} {pos : Pos}
def bagIx (p : Addr) (i : Int) : M D := fun b => match b with
  | some g => if g.p = p then (atI [D.int g.z0, D.int g.z1, D.int g.z2, D.lst (g.cs.map D.int)] i).map fun d => (d, b) else none
  | none => none
def ixD : D → D → M D
  | .lst xs, .int i => M.of (atI xs i)
  | .tup xs, .int i => M.of (atI xs i)
  | .str x, .int i => M.guard (szS x.length) (M.of ((atI x i).map fun c => .str [c]))
  | .bag p, .int i => bagIx p i
  | _, _ => M.fail
theorem RpL.ints {K : PySem.W.Frag} {G : Hp} : ∀ ns : List Int, RpL K G (ns.map V.int) (ns.map D.int)
  | [] => .nil
  | n :: ns => .cons (.int n) (RpL.ints ns)
theorem RpL.atI {K : PySem.W.Frag} {G : Hp} {vs : List V} {ds : List D} {i : Int} {d : D} (r : RpL K G vs ds) (h : atI ds i = some d) : ∃ v, L2.atI vs i = some v ∧ Rp K G v d := by
  unfold L2.atI at h ⊢
  rw [r.length]
  cases e : ixN ds.length i with
  | none => rw [e] at h; cases h
  | some j =>
    rw [e] at h
    exact r.get h
theorem M.of_some' {α : Type} {o : Option α} {b b' : Bs} {a : α} (h : M.of o b = some (a, b')) : o = some a ∧ b = b' := by
  cases o with
  | none => cases h
  | some x => cases h; exact ⟨rfl, rfl⟩
theorem snd_ix : SndR X.K (rIx X.K) ixD := by
  intro G H b x y dx dy d b' Q rx ry fz ob e q
  cases ry with
  | int i =>
    cases rx with
    | lst h r =>
      obtain ⟨e1, rfl⟩ := M.of_some' e
      obtain ⟨v, h1, h2⟩ := r.atI e1
      exact .inl ⟨_, _, i, v, rfl, rfl, SqL.of (fz _ _ h), h1, q v G H (Nxt.refl fz ob) h2⟩
    | tup h r =>
      obtain ⟨e1, rfl⟩ := M.of_some' e
      obtain ⟨v, h1, h2⟩ := r.atI e1
      exact .inr (.inl ⟨_, _, i, v, rfl, rfl, SameF.sqt fz h, h1, q v G H (Nxt.refl fz ob) h2⟩)
    | str x =>
      obtain ⟨c, e⟩ := M.guard_some e
      obtain ⟨e1, rfl⟩ := M.of_some' e
      cases e2 : atI x i with
      | none => rw [e2] at e1; cases e1
      | some c0 =>
        rw [e2] at e1
        cases e1
        refine .inr (.inr ⟨_, i, c0, rfl, rfl, ?_, ?_, q _ G H (Nxt.refl fz ob) (.str [c0])⟩)
        · rw [szStr]; exact of_decide_eq_true c
        · simpa using e2
    | bag p =>
      cases b with
      | none => cases e
      | some g =>
        have e' : (if g.p = p then (atI [D.int g.z0, D.int g.z1, D.int g.z2, D.lst (g.cs.map D.int)] i).map fun d => (d, (some g : Bs)) else none) = some (d, b') := e
        by_cases hp : g.p = p
        · rw [if_pos hp] at e'
          cases e2 : atI [D.int g.z0, D.int g.z1, D.int g.z2, D.lst (g.cs.map D.int)] i with
          | none => rw [e2] at e'; cases e'
          | some d0 =>
            rw [e2] at e'
            cases e'
            obtain ⟨⟨o1, o2, o3⟩, _⟩ := id ob
            have r : RpL X.K G [.int g.z0, .int g.z1, .int g.z2, .ref g.q] [D.int g.z0, D.int g.z1, D.int g.z2, D.lst (g.cs.map D.int)] := .cons (.int _) (.cons (.int _) (.cons (.int _) (.cons (.lst o3.1 (RpL.ints _)) .nil)))
            obtain ⟨v, h1, h2⟩ := r.atI e2
            exact .inl ⟨p, _, i, v, rfl, rfl, SqL.of (by rw [← hp]; exact o2), h1, q v G H (Nxt.refl fz ob) h2⟩
        · rw [if_neg hp] at e'; cases e'
    | _ => cases e
  | _ => cases rx <;> cases e
theorem d_ix (ha : DE X a f) (hb : DE X b g) (hp : PlainIx b := by exact fun _ _ => rfl) : DE X (.Subscript a b pos) (fun ρ => M.bind (f ρ) fun x => M.bind (g ρ) fun y => ixD x y) := d_ix0 ix_seq snd_ix ha hb hp
def addD : D → D → M D
  | .int i, .int j => M.ret (.int (i + j))
  | .str x, .str y => M.guard (szS (x.length + y.length)) (M.ret (.str (x ++ y)))
  | .lst x, .lst y => M.guard (szS (x.length + y.length)) (M.ret (.lst (x ++ y)))
  | .tup x, .tup y => M.guard (szS (x.length + y.length) && !x.isEmpty && !y.isEmpty) (M.ret (.tup (x ++ y)))
  | _, _ => M.fail
theorem snd_add : SndR X.K (fun x y H Q => (rI0 (fun i j => .int (i + j)) x y H Q ∨ (∃ i j, x = .str i ∧ y = .str j ∧ i.length + j.length ≤ sizeLine ∧ Q (.str (i ++ j)) H)) ∨ (rCat x y H Q ∨ rCatT X.K x y H Q)) addD := by
  intro G H b x y dx dy d b' Q rx ry fz ob e q
  cases rx with
  | int i =>
    cases ry with
    | int j => cases e; exact .inl (.inl ⟨i, j, rfl, rfl, q _ G H (Nxt.refl fz ob) (.int _)⟩)
    | _ => cases e
  | str x =>
    cases ry with
    | str y =>
      obtain ⟨c, e⟩ := M.guard_some e
      cases e
      refine .inl (.inr ⟨_, _, rfl, rfl, by rw [szStr, szStr]; exact of_decide_eq_true c, ?_⟩)
      have h := q (.str ⟨(x ++ y).toArray⟩) G H (Nxt.refl fz ob) (.str (x ++ y))
      have e2 : ((⟨x.toArray⟩ : Str) ++ (⟨y.toArray⟩ : Str)) = ⟨(x ++ y).toArray⟩ := by
        show (⟨x.toArray ++ y.toArray⟩ : Str) = _
        simp
      rw [e2]; exact h
    | _ => cases e
  | lst hx r1 =>
    cases ry with
    | lst hy r2 =>
      obtain ⟨c, e⟩ := M.guard_some e
      cases e
      refine .inr (.inl ⟨_, _, _, _, rfl, rfl, fz _ _ hx, fz _ _ hy, by rw [r1.length, r2.length]; exact of_decide_eq_true c, fun p hp => q_newL fz ob hp (r1.append r2) q⟩)
    | _ => cases e
  | tup hx r1 =>
    cases ry with
    | tup hy r2 =>
      obtain ⟨c, e⟩ := M.guard_some e
      cases e
      simp only [Bool.and_eq_true, Bool.not_eq_true'] at c
      have n1 : ∀ {vs : List V} {ds : List D}, RpL X.K G vs ds → ds.isEmpty = false → vs ≠ [] := fun r h z => by
        have := r.empty
        rw [z, h] at this; cases this
      refine .inr (.inr ⟨_, _, _, _, rfl, rfl, SameF.sqt fz hx, SameF.sqt fz hy, n1 r1 c.1.2, by rw [r1.length, r2.length]; exact of_decide_eq_true c.1.1, fun z => absurd z (n1 r2 c.2), fun _ p hp => q_newT fz ob hp (r1.append r2) q⟩)
    | _ => cases e
  | _ => cases ry <;> cases e
theorem d_add (ha : DE X a f) (hb : DE X b g) : DE X (.BinOp a .Add b pos) (fun ρ => M.bind (f ρ) fun x => M.bind (g ρ) fun y => addD x y) :=
  d_op ((op_add.or op_add_str).or (op_cat.or op_catT)) snd_add ha hb
def i2 (h : Int → Int → Option Int) : D → D → M D
  | .int i, .int j => M.of ((h i j).map D.int)
  | _, _ => M.fail
theorem snd_i2 {K : PySem.W.Frag} {C : Int → Int → Prop} {k : Int → Int → Int} {h : Int → Int → Option Int} (hh : ∀ i j z, h i j = some z → C i j ∧ k i j = z) : SndR K (rI C fun i j => .int (k i j)) (i2 h) := by
  intro G H b x y dx dy d b' Q rx ry fz ob e q
  cases rx with
  | int i =>
    cases ry with
    | int j =>
      obtain ⟨e1, rfl⟩ := M.of_some' e
      cases e2 : h i j with
      | none => rw [e2] at e1; cases e1
      | some z =>
        rw [e2] at e1
        cases e1
        obtain ⟨c, rfl⟩ := hh i j z e2
        exact ⟨i, j, rfl, rfl, c, q _ G H (Nxt.refl fz ob) (.int _)⟩
    | _ => cases e
  | _ => cases ry <;> cases e
theorem snd_i0 {K : PySem.W.Frag} {k : Int → Int → Int} {h : Int → Int → Option Int} (hh : ∀ i j z, h i j = some z → k i j = z) : SndR K (rI0 fun i j => .int (k i j)) (i2 h) := by
  intro G H b x y dx dy d b' Q rx ry fz ob e q
  cases rx with
  | int i =>
    cases ry with
    | int j =>
      obtain ⟨e1, rfl⟩ := M.of_some' e
      cases e2 : h i j with
      | none => rw [e2] at e1; cases e1
      | some z =>
        rw [e2] at e1
        cases e1
        cases hh i j z e2
        exact ⟨i, j, rfl, rfl, q _ G H (Nxt.refl fz ob) (.int _)⟩
    | _ => cases e
  | _ => cases ry <;> cases e
def subD : D → D → M D := i2 fun i j => some (i - j)
theorem d_sub (ha : DE X a f) (hb : DE X b g) : DE X (.BinOp a .Sub b pos) (fun ρ => M.bind (f ρ) fun x => M.bind (g ρ) fun y => subD x y) :=
  d_op op_sub (snd_i0 fun i j z e => Option.some.inj e) ha hb
def modD : D → D → M D := i2 fun i j => if 0 < j then some (i % j) else none
theorem d_mod (ha : DE X a f) (hb : DE X b g) : DE X (.BinOp a .Mod b pos) (fun ρ => M.bind (f ρ) fun x => M.bind (g ρ) fun y => modD x y) :=
  d_op op_mod (snd_i2 fun i j z e => by
    by_cases h : 0 < j
    · rw [if_pos h] at e; exact ⟨h, Option.some.inj e⟩
    · rw [if_neg h] at e; cases e) ha hb
def divD : D → D → M D := i2 fun i j => if 0 < j ∧ j < 1000000000000000000000000000000 then some (i / j) else none
theorem d_div (ha : DE X a f) (hb : DE X b g) : DE X (.BinOp a .FloorDiv b pos) (fun ρ => M.bind (f ρ) fun x => M.bind (g ρ) fun y => divD x y) :=
  d_op op_fdivW (snd_i2 fun i j z e => by
    by_cases h : 0 < j ∧ j < 1000000000000000000000000000000
    · rw [if_pos h] at e; exact ⟨wide_div (b := 100) h.1 (by omega) (by decide) (by decide), Option.some.inj e⟩
    · rw [if_neg h] at e; cases e) ha hb
def okM (i j : Int) : Bool := (decide (-(2 ^ 64) < i) && decide (i < 2 ^ 64)) || (decide (-(2 ^ 64) < j) && decide (j < 2 ^ 64))
theorem okM_c {i j : Int} (h : okM i j = true) : CMul i j := by
  unfold okM at h
  simp only [Bool.or_eq_true, Bool.and_eq_true, decide_eq_true_eq] at h
  exact h
def repL {α : Type} (x : List α) (n : Nat) : List α := (List.replicate n x).flatten
def okRep (x : Nat) (k : Int) : Bool := decide (-(2 ^ 63) ≤ k) && decide (k < 2 ^ 63) && decide (x * k.toNat ≤ sizeLine)
def mulD : D → D → M D
  | .int i, .int j => M.guard (okM i j) (M.ret (.int (i * j)))
  | .str x, .int k => M.guard (okRep x.length k) (M.ret (.str (repL x k.toNat)))
  | .lst x, .int k => M.guard (okRep x.length k) (M.ret (.lst (repL x k.toNat)))
  | _, _ => M.fail
theorem fold_app (x : List Nat) : ∀ (n : Nat) (acc : List Nat), (List.replicate n x.toArray).foldl (· ++ ·) acc.toArray = (acc ++ repL x n).toArray
  | 0, acc => by simp [repL]
  | n + 1, acc => by
    rw [List.replicate_succ, List.foldl_cons]
    have : acc.toArray ++ x.toArray = (acc ++ x).toArray := by simp
    rw [this, fold_app x n (acc ++ x)]
    simp [repL, List.replicate_succ]
theorem repL_one {α : Type} (x : List α) : repL x 1 = x := by simp [repL]
theorem txt_mul (x : List Nat) (k : Int) : Txt.mul ⟨x.toArray⟩ k = ⟨(repL x k.toNat).toArray⟩ := by
  unfold Txt.mul
  by_cases h1 : k < 1
  · rw [if_pos h1]
    have : k.toNat = 0 := by omega
    rw [this]; simp [repL, Str.empty]
  · rw [if_neg h1]
    by_cases h2 : (k == 1 || (⟨x.toArray⟩ : Str).length == 0) = true
    · rw [if_pos h2]
      rw [Bool.or_eq_true] at h2
      rcases h2 with h | h
      · have : k = 1 := by simpa using h
        subst this
        show _ = (⟨(repL x 1).toArray⟩ : Str)
        rw [repL_one]
      · have : x = [] := by
          have h' : (⟨x.toArray⟩ : Str).length = 0 := by simpa using h
          rw [szStr] at h'
          exact List.eq_nil_of_length_eq_zero h'
        subst this
        simp [repL]
    · rw [if_neg h2]
      have := fold_app x k.toNat []
      simp only [List.nil_append] at this
      show (⟨List.foldl (· ++ ·) #[] (List.replicate k.toNat x.toArray)⟩ : Str) = _
      rw [← this]
theorem op_mul_str : OpR X (binaryOp .Mult) (fun x y H Q => ∃ (z : List Nat) (k : Int), x = .str ⟨z.toArray⟩ ∧ y = .int k ∧ okRep z.length k = true ∧ Q (.str ⟨(repL z k.toNat).toArray⟩) H) := by
  intro pins s σ H x y v u Q I rx ry h
  obtain ⟨z, k, rfl, rfl, c, q⟩ := h
  obtain ⟨t, rfl⟩ := rx
  obtain ⟨t', rfl⟩ := ry
  unfold okRep at c
  simp only [Bool.and_eq_true, decide_eq_true_eq] at c
  obtain ⟨⟨c1, c2⟩, c3⟩ := c
  have hs : (sizeLine : Nat) = 16777216 := by decide
  refine PySem.SB.mul ⟨?_, fun h1 h2 => ?_, fun h1 h2 => ?_⟩ fun t' k' => ⟨.str ⟨(repL z k.toNat).toArray⟩, H, I.tok _, ⟨t', by rw [txt_mul]⟩, q⟩
  · rw [decide_eq_false (by omega), decide_eq_false (by omega)]; rfl
  · rw [szStr]
    intro h3
    have hk : 1 ≤ k := by omega
    have e1 : (z.length : Int) * k ≤ sizeLine := by
      have e0 : k = (k.toNat : Int) := by omega
      rw [e0, ← Int.natCast_mul]
      exact Int.ofNat_le.mpr c3
    have h4 : (2 ^ 63 - 1) < ((z.length : Int)) * k := by
      have := Int.lt_mul_of_ediv_lt (by omega : 0 < k) h3
      exact this
    rw [hs] at e1
    have : ((16777216 : Nat) : Int) < 2 ^ 63 - 1 := by decide
    omega
  · rw [szStr]
    unfold Builtin.Str.tooLong
    rw [hs] at c3
    simp
    omega
theorem RpL.flat {K : PySem.W.Frag} {G : Hp} {vs : List V} {ds : List D} (r : RpL K G vs ds) : ∀ n : Nat, RpL K G (repL vs n) (repL ds n)
  | 0 => .nil
  | n + 1 => by
    unfold repL
    rw [List.replicate_succ, List.replicate_succ, List.flatten_cons, List.flatten_cons]
    exact r.append (RpL.flat r n)
theorem snd_mul : SndR X.K (fun x y H Q => (rI CMul (fun i j => .int (i * j)) x y H Q ∨ (∃ (z : List Nat) (k : Int), x = .str ⟨z.toArray⟩ ∧ y = .int k ∧ okRep z.length k = true ∧ Q (.str ⟨(repL z k.toNat).toArray⟩) H)) ∨ rRep x y H Q) mulD := by
  intro G H b x y dx dy d b' Q rx ry fz ob e q
  cases ry with
  | int j =>
    cases rx with
    | int i =>
      obtain ⟨c, e⟩ := M.guard_some e
      cases e
      exact .inl (.inl ⟨i, j, rfl, rfl, okM_c c, q _ G H (Nxt.refl fz ob) (.int _)⟩)
    | str x =>
      obtain ⟨c, e⟩ := M.guard_some e
      cases e
      exact .inl (.inr ⟨x, j, rfl, rfl, c, q _ G H (Nxt.refl fz ob) (.str _)⟩)
    | lst hx r =>
      obtain ⟨c, e⟩ := M.guard_some e
      cases e
      unfold okRep at c
      simp only [Bool.and_eq_true, decide_eq_true_eq] at c
      refine .inr ⟨_, j, _, rfl, rfl, fz _ _ hx, c.1.1, c.1.2, by rw [r.length]; exact c.2, fun p hp => q_newL fz ob hp (r.flat _) q⟩
    | _ => cases e
  | _ => cases rx <;> cases e
theorem d_mul (ha : DE X a f) (hb : DE X b g) : DE X (.BinOp a .Mult b pos) (fun ρ => M.bind (f ρ) fun x => M.bind (g ρ) fun y => mulD x y) :=
  d_op ((op_mul.or op_mul_str).or op_rep) snd_mul ha hb
def negD : D → M D
  | .int i => M.ret (.int (-i))
  | _ => M.fail
theorem d_neg (ha : DE X a f) : DE X (.UnaryOp .USub a pos) (fun ρ => M.bind (f ρ) negD) := by
  refine PEimp (pe_un un_neg ha) ?_
  rintro σ H Q ⟨ρ, G, b, d, b', rs, fz, ob, e, q⟩
  obtain ⟨x, b1, e1, e2⟩ := M.bind_some e
  refine ⟨ρ, G, b, x, b1, rs, fz, ob, e1, fun v G1 H1 n1 r => ?_⟩
  cases r with
  | int i => cases e2; exact ⟨i, rfl, q _ _ _ n1 (.int _)⟩
  | _ => cases e2
def cmpD (h : Int → Int → Bool) : D → D → M D
  | .int i, .int j => M.ret (.bl (h i j))
  | _, _ => M.fail
theorem snd_cmp {K : PySem.W.Frag} {h : Int → Int → Bool} : SndR K (rI0 fun i j => .bl (h i j)) (cmpD h) := by
  intro G H b x y dx dy d b' Q rx ry fz ob e q
  cases rx with
  | int i =>
    cases ry with
    | int j => cases e; exact ⟨i, j, rfl, rfl, q _ G H (Nxt.refl fz ob) (.bl _)⟩
    | _ => cases e
  | _ => cases ry <;> cases e
abbrev ltD : D → D → M D := cmpD fun i j => decide (i < j)
abbrev leD : D → D → M D := cmpD fun i j => decide (i ≤ j)
abbrev gtD : D → D → M D := cmpD fun i j => decide (j < i)
abbrev geD : D → D → M D := cmpD fun i j => decide (j ≤ i)
theorem t_lt (ha : DE X a f) (hb : DE X b g) : DT X (.Compare a [.Lt] [b] pos) (fun ρ => M.bind (f ρ) fun x => M.bind (g ρ) fun y => M.bind (ltD x y) asB) := t_cmp op_lt snd_cmp ha hb (nomark _)
theorem t_le (ha : DE X a f) (hb : DE X b g) : DT X (.Compare a [.LtE] [b] pos) (fun ρ => M.bind (f ρ) fun x => M.bind (g ρ) fun y => M.bind (leD x y) asB) := t_cmp op_le snd_cmp ha hb (nomark _)
theorem t_gt (ha : DE X a f) (hb : DE X b g) : DT X (.Compare a [.Gt] [b] pos) (fun ρ => M.bind (f ρ) fun x => M.bind (g ρ) fun y => M.bind (gtD x y) asB) := t_cmp op_gt snd_cmp ha hb (nomark _)
theorem t_ge (ha : DE X a f) (hb : DE X b g) : DT X (.Compare a [.GtE] [b] pos) (fun ρ => M.bind (f ρ) fun x => M.bind (g ρ) fun y => M.bind (geD x y) asB) := t_cmp op_ge snd_cmp ha hb (nomark _)
theorem d_le (ha : DE X a f) (hb : DE X b g) : DE X (.Compare a [.LtE] [b] pos) (fun ρ => M.bind (f ρ) fun x => M.bind (g ρ) fun y => leD x y) := d_cmp op_le snd_cmp ha hb (nomark _)
theorem d_ge (ha : DE X a f) (hb : DE X b g) : DE X (.Compare a [.GtE] [b] pos) (fun ρ => M.bind (f ρ) fun x => M.bind (g ρ) fun y => geD x y) := d_cmp op_ge snd_cmp ha hb (nomark _)
end
end DL
set_option Elab.async false
set_option maxRecDepth 100000
set_option autoImplicit false
set_option linter.unusedVariables false
set_option maxHeartbeats 4000000
namespace DL
open PySem L2 PySem.Spec PyProof.Rows
variable [TAB : TabList]
variable [EFF : Eff]
set_option linter.unusedSectionVars false
mutual
theorem dpF {K : PySem.W.Frag} {G H : Hp} : ∀ {v : V} {d : PyData}, Dp K G v d → SameF G H → Dp K H v d
  | _, _, .non, _ => .non
  | _, _, .bl b, _ => .bl b
  | _, _, .int i, _ => .int i
  | _, _, .str x, _ => .str x
  | _, _, .lst h r, e => .lst (SameF.seq e h) (dpFs r e)
  | _, _, .tup h r, e => .tup (SameF.sqt e h) (dpFs r e)
theorem dpFs {K : PySem.W.Frag} {G H : Hp} : ∀ {vs : List V} {ds : List PyData}, DpAll K G vs ds → SameF G H → DpAll K H vs ds
  | _, _, .nil, _ => .nil
  | _, _, .cons a b, e => .cons (dpF a e) (dpFs b e)
end
theorem _root_.L2.Dp.monoF {K : PySem.W.Frag} {G H : Hp} {v : V} {d : PyData} (h : Dp K G v d) (e : SameF G H) : Dp K H v d := dpF h e
mutual
def toPy : D → Option PyData
  | .non => some .none
  | .bl b => some (.bool b)
  | .int i => some (.int i)
  | .str x => some (.str ⟨x.toArray⟩)
  | .lst xs => match toPyL xs with
    | some l => some (.list l)
    | none => none
  | .tup xs => match toPyL xs with
    | some l => some (.tuple l)
    | none => none
  | .dct _ _ => none
  | .dcT _ _ => none
  | .obj _ _ => none
  | .bag _ => none
  | .scr _ => none
  | .exc _ _ _ _ => none
  | .clo _ _ => none
  | .cel _ => none
def toPyL : List D → Option (List PyData)
  | [] => some []
  | d :: ds => match toPy d with
    | some a => match toPyL ds with
      | some l => some (a :: l)
      | none => none
    | none => none
end
mutual
theorem Rp.dp {K : PySem.W.Frag} {G : Hp} : ∀ {v : V} {d : D} {e : PyData}, Rp K G v d → toPy d = some e → Dp K G v e
  | _, _, _, .non, h => by unfold toPy at h; cases h; exact .non
  | _, _, _, .bl b, h => by unfold toPy at h; cases h; exact .bl b
  | _, _, _, .int i, h => by unfold toPy at h; cases h; exact .int i
  | _, _, _, .str x, h => by unfold toPy at h; cases h; exact .str _
  | _, _, _, .lst (ds := ds) h1 r, h => by
    unfold toPy at h
    cases e : toPyL ds with
    | none => rw [e] at h; cases h
    | some l => rw [e] at h; cases h; exact .lst (SqL.of h1) (RpL.dp r e)
  | _, _, _, .tup (ds := ds) h1 r, h => by
    unfold toPy at h
    cases e : toPyL ds with
    | none => rw [e] at h; cases h
    | some l => rw [e] at h; cases h; exact .tup h1 (RpL.dp r e)
  | _, _, _, .dct _ _ _, h => by unfold toPy at h; cases h
  | _, _, _, .dcT _ _ _, h => by unfold toPy at h; cases h
  | _, _, _, .obj _ _ _ _, h => by unfold toPy at h; cases h
  | _, _, _, .bag _, h => by unfold toPy at h; cases h
  | _, _, _, .scr _, h => by unfold toPy at h; cases h
  | _, _, _, .exc _ _, h => by unfold toPy at h; cases h
  | _, _, _, .clo _ _ _ _, h => by unfold toPy at h; cases h
  | _, _, _, .cel _, h => by unfold toPy at h; cases h
theorem RpL.dp {K : PySem.W.Frag} {G : Hp} : ∀ {vs : List V} {ds : List D} {es : List PyData}, RpL K G vs ds → toPyL ds = some es → DpAll K G vs es
  | _, _, _, .nil, h => by unfold toPyL at h; cases h; exact .nil
  | _, _, _, .cons (d := d) (ds := ds) a b, h => by
    unfold toPyL at h
    cases e1 : toPy d with
    | none => rw [e1] at h; cases h
    | some x =>
      rw [e1] at h
      cases e2 : toPyL ds with
      | none => rw [e2] at h; cases h
      | some l => rw [e2] at h; cases h; exact .cons (Rp.dp a e1) (RpL.dp b e2)
end
def eqDeep (neg : Bool) (x y : D) : M D := match toPy x with
  | some a => match toPy y with
    | some b => M.guard (SeqAt.shaped a && SeqAt.shaped b) (M.ret (.bl (if neg then !PyData.eqv a b else PyData.eqv a b)))
    | none => M.fail
  | none => M.fail
def eqD (neg : Bool) : D → D → M D
  | .int i, .int j => M.ret (.bl (if neg then !decide (i = j) else decide (i = j)))
  | .str i, .str j => M.ret (.bl (if neg then !decide (i = j) else decide (i = j)))
  | .bl i, .bl j => M.ret (.bl (if neg then !decide (i = j) else decide (i = j)))
  | x, y => eqDeep neg x y
theorem dec_S (x y : List Nat) : decide (V.str ⟨x.toArray⟩ = V.str ⟨y.toArray⟩) = decide (x = y) := by
  by_cases h : x = y
  · subst h; simp
  · rw [decide_eq_false h, decide_eq_false]
    intro z
    apply h
    have := V.str.inj z
    have := congrArg Str.cps this
    simpa using this
theorem dec_I (x y : Int) : decide (V.int x = V.int y) = decide (x = y) := by
  by_cases h : x = y
  · subst h; simp
  · rw [decide_eq_false h, decide_eq_false fun z => h (V.int.inj z)]
theorem dec_B (x y : Bool) : decide (V.bl x = V.bl y) = decide (x = y) := by
  by_cases h : x = y
  · subst h; simp
  · rw [decide_eq_false h, decide_eq_false fun z => h (V.bl.inj z)]
theorem eqDeep_some {neg : Bool} {x y d : D} {b b' : Bs} (h : eqDeep neg x y b = some (d, b')) : ∃ e1 e2, toPy x = some e1 ∧ toPy y = some e2 ∧ SeqAt.shaped e1 = true ∧ SeqAt.shaped e2 = true ∧ d = .bl (if neg then !PyData.eqv e1 e2 else PyData.eqv e1 e2) ∧ b = b' := by
  unfold eqDeep at h
  cases e1 : toPy x with
  | none => rw [e1] at h; cases h
  | some a1 =>
    cases e2 : toPy y with
    | none => rw [e1, e2] at h; cases h
    | some a2 =>
      rw [e1, e2] at h
      obtain ⟨c, h⟩ := M.guard_some h
      cases h
      rw [Bool.and_eq_true] at c
      exact ⟨a1, a2, rfl, rfl, c.1, c.2, rfl, rfl⟩
theorem snd_eq {K : PySem.W.Frag} : SndR K (fun x y H Q => rEq x y H Q ∨ rEqD K x y H Q) (eqD false) := by
  intro G H b x y dx dy d b' Q rx ry fz ob e q
  have deep : eqDeep false dx dy b = some (d, b') → rEq x y H Q ∨ rEqD K x y H Q := fun h => by
    obtain ⟨e1, e2, h1, h2, h3, h4, rfl, rfl⟩ := eqDeep_some h
    exact .inr ⟨e1, e2, (rx.dp h1).monoF fz, (ry.dp h2).monoF fz, h3, h4, q _ G H (Nxt.refl fz ob) (.bl _)⟩
  cases rx with
  | int i =>
    cases ry with
    | int j =>
      cases e
      refine .inl ⟨rfl, ?_⟩
      rw [dec_I]; exact q _ G H (Nxt.refl fz ob) (.bl _)
    | _ => exact deep e
  | str i =>
    cases ry with
    | str j =>
      cases e
      refine .inl ⟨rfl, ?_⟩
      rw [dec_S]; exact q _ G H (Nxt.refl fz ob) (.bl _)
    | _ => exact deep e
  | bl i =>
    cases ry with
    | bl j =>
      cases e
      refine .inl ⟨rfl, ?_⟩
      rw [dec_B]; exact q _ G H (Nxt.refl fz ob) (.bl _)
    | _ => exact deep e
  | _ => exact deep e
theorem snd_ne {K : PySem.W.Frag} : SndR K (fun x y H Q => rNe x y H Q ∨ rNeD K x y H Q) (eqD true) := by
  intro G H b x y dx dy d b' Q rx ry fz ob e q
  have deep : eqDeep true dx dy b = some (d, b') → rNe x y H Q ∨ rNeD K x y H Q := fun h => by
    obtain ⟨e1, e2, h1, h2, h3, h4, rfl, rfl⟩ := eqDeep_some h
    exact .inr ⟨e1, e2, (rx.dp h1).monoF fz, (ry.dp h2).monoF fz, h3, h4, q _ G H (Nxt.refl fz ob) (.bl _)⟩
  cases rx with
  | int i =>
    cases ry with
    | int j =>
      cases e
      refine .inl ⟨rfl, ?_⟩
      rw [dec_I]; exact q _ G H (Nxt.refl fz ob) (.bl _)
    | _ => exact deep e
  | str i =>
    cases ry with
    | str j =>
      cases e
      refine .inl ⟨rfl, ?_⟩
      rw [dec_S]; exact q _ G H (Nxt.refl fz ob) (.bl _)
    | _ => exact deep e
  | bl i =>
    cases ry with
    | bl j =>
      cases e
      refine .inl ⟨rfl, ?_⟩
      rw [dec_B]; exact q _ G H (Nxt.refl fz ob) (.bl _)
    | _ => exact deep e
  | _ => exact deep e
section
variable {X : Cx} {a b : Expr} {f g : Env → M D} {pos : Pos}
theorem t_eq (hu : X.A.units + 64 < cLine) (ha : DE X a f) (hb : DE X b g) : DT X (.Compare a [.Eq] [b] pos) (fun ρ => M.bind (f ρ) fun x => M.bind (g ρ) fun y => M.bind (eqD false x y) asB) := t_cmp (op_eq.or (op_eqD hu)) snd_eq ha hb (nomark _)
theorem d_eq (hu : X.A.units + 64 < cLine) (ha : DE X a f) (hb : DE X b g) : DE X (.Compare a [.Eq] [b] pos) (fun ρ => M.bind (f ρ) fun x => M.bind (g ρ) fun y => eqD false x y) := d_cmp (op_eq.or (op_eqD hu)) snd_eq ha hb (nomark _)
theorem t_ne (hu : X.A.units + 64 < cLine) (ha : DE X a f) (hb : DE X b g) : DT X (.Compare a [.NotEq] [b] pos) (fun ρ => M.bind (f ρ) fun x => M.bind (g ρ) fun y => M.bind (eqD true x y) asB) := t_cmp (op_ne.or (op_neD hu)) snd_ne ha hb (nomark _)
def inD (neg : Bool) : D → D → M D
  | .str [c], .str z => M.ret (.bl (if neg then !decide (c ∈ z) else decide (c ∈ z)))
  | _, _ => M.fail
theorem inD_some {neg : Bool} {x y d : D} {b b' : Bs} (h : inD neg x y b = some (d, b')) : ∃ c z, x = .str [c] ∧ y = .str z ∧ d = .bl (if neg then !decide (c ∈ z) else decide (c ∈ z)) ∧ b = b' := by
  unfold inD at h
  split at h
  · cases h; exact ⟨_, _, rfl, rfl, rfl, rfl⟩
  · cases h
theorem snd_in : SndR X.K (fun x y H Q => ∃ (c : Nat) (z : Str), x = .str ⟨#[c]⟩ ∧ y = .str z ∧ Q (.bl (decide (c ∈ z.cps.toList))) H) (inD false) := by
  intro G H b x y dx dy d b' Q rx ry fz ob e q
  obtain ⟨c, z, rfl, rfl, rfl, rfl⟩ := inD_some e
  cases rx
  cases ry
  refine ⟨c, _, rfl, rfl, ?_⟩
  exact q _ G H (Nxt.refl fz ob) (.bl _)
theorem snd_notIn : SndR X.K (fun x y H Q => ∃ (c : Nat) (z : Str), x = .str ⟨#[c]⟩ ∧ y = .str z ∧ Q (.bl (!decide (c ∈ z.cps.toList))) H) (inD true) := by
  intro G H b x y dx dy d b' Q rx ry fz ob e q
  obtain ⟨c, z, rfl, rfl, rfl, rfl⟩ := inD_some e
  cases rx
  cases ry
  refine ⟨c, _, rfl, rfl, ?_⟩
  exact q _ G H (Nxt.refl fz ob) (.bl _)
theorem d_in (ha : DE X a f) (hb : DE X b g) (hm : behindInMarks .In b = false := by rfl) : DE X (.Compare a [.In] [b] pos) (fun ρ => M.bind (f ρ) fun x => M.bind (g ρ) fun y => inD false x y) := d_cmp op_in_sign snd_in ha hb hm
theorem d_notIn (ha : DE X a f) (hb : DE X b g) (hm : behindInMarks .NotIn b = false := by rfl) : DE X (.Compare a [.NotIn] [b] pos) (fun ρ => M.bind (f ρ) fun x => M.bind (g ρ) fun y => inD true x y) := d_cmp op_notIn_sign snd_notIn ha hb hm
def cutL {α : Type} (xs : List α) (lo hi : Option Int) : List α := (xs.drop (HT.sIx xs.length 0 lo)).take (HT.sIx xs.length xs.length hi - HT.sIx xs.length 0 lo)
def tFO (K : PySem.W.Frag) (f : Env → M (Option Int)) : TO := fun σ H Q => ∃ ρ G b d b', RS K G σ ρ ∧ SameF G H ∧ BagOk G H b ∧ f ρ b = some (d, b') ∧ ∀ G' H', Nxt G H b G' H' b' → Q d H'
abbrev DO (X : Cx) (e : Option Expr) (f : Env → M (Option Int)) : Prop := PO X e (tFO X.K f)
theorem POimp {e : Option Expr} {t t' : TO} (h : PO X e t) (i : ∀ σ H Q, t' σ H Q → t σ H Q) : PO X e t' := ⟨fun pins s σ H Q I q => h.run pins s σ H Q I (i σ H Q q)⟩
theorem do_none : DO X none (fun _ => M.ret none) := by
  refine POimp po_none ?_
  rintro σ H Q ⟨ρ, G, b, d, b', rs, fz, ob, e, q⟩
  cases e
  exact q G H (Nxt.refl fz ob)
def asI : D → M (Option Int)
  | .int i => M.ret (some i)
  | _ => M.fail
theorem do_some (ha : DE X a f) : DO X (some a) (fun ρ => M.bind (f ρ) asI) := by
  refine POimp (po_some ha) ?_
  rintro σ H Q ⟨ρ, G, b, d, b', rs, fz, ob, e, q⟩
  obtain ⟨x, b1, e1, e2⟩ := M.bind_some e
  refine ⟨ρ, G, b, x, b1, rs, fz, ob, e1, fun v G1 H1 n1 r => ?_⟩
  cases r with
  | int i => cases e2; exact ⟨i, rfl, q _ _ n1⟩
  | _ => cases e2
def slD (lo hi : Option Int) : D → M D
  | .str x => M.guard (szS x.length) (M.ret (.str (cutL x lo hi)))
  | .lst xs => M.ret (.lst (cutL xs lo hi))
  | .scr ns => M.ret (.lst (cutL (ns.map D.int) lo hi))
  | .tup xs => M.guard (!(decide (HT.sIx xs.length 0 lo = 0) && decide (HT.sIx xs.length xs.length hi = xs.length))) (M.ret (.tup (cutL xs lo hi)))
  | _ => M.fail
theorem RpL.cut {K : PySem.W.Frag} {G : Hp} {vs : List V} {ds : List D} (r : RpL K G vs ds) (lo hi : Option Int) : RpL K G (cutV vs lo hi) (cutL ds lo hi) := by
  unfold cutV cutL
  rw [r.length]
  exact (r.drop _).take _
theorem cutS_L (x : List Nat) (lo hi : Option Int) : cutS ⟨x.toArray⟩ lo hi = ⟨(cutL x lo hi).toArray⟩ := by
  unfold cutS cutL
  rw [szStr]
theorem d_slice {p2 : Pos} {lo hi : Option Expr} {fl fh : Env → M (Option Int)} (ha : DE X a f) (hl : DO X lo fl) (hh : DO X hi fh) :
    DE X (.Subscript a (.Slice lo hi none p2) pos) (fun ρ => M.bind (f ρ) fun x => M.bind (fl ρ) fun l => M.bind (fh ρ) fun h => slD l h x) := by
  refine PEimp (pe_slice (sl_str.or (sl_list.or sl_tup)) ha hl hh) ?_
  rintro σ H Q ⟨ρ, G, b, d, b', rs, fz, ob, e, q⟩
  obtain ⟨x, b1, e1, e⟩ := M.bind_some e
  obtain ⟨l, b2, e2, e⟩ := M.bind_some e
  obtain ⟨h, b3, e3, e⟩ := M.bind_some e
  refine ⟨ρ, G, b, x, b1, rs, fz, ob, e1, fun v G1 H1 n1 r => ?_⟩
  refine ⟨ρ, G1, b1, l, b2, rs.mono n1.gg, n1.fz, n1.bag, e2, fun G2 H2 n2 => ?_⟩
  refine ⟨ρ, G2, b2, h, b3, (rs.mono n1.gg).mono n2.gg, n2.fz, n2.bag, e3, fun G3 H3 n3 => ?_⟩
  have r := (r.mono n2.gg).mono n3.gg
  have q : ∀ v G' H', Nxt G3 H3 b3 G' H' b' → Rp X.K G' v d → Q v H' := fun v G' H' n rr => q v G' H' (((n1.trans n2).trans n3).trans n) rr
  cases r with
  | str x =>
    obtain ⟨c, e⟩ := M.guard_some e
    cases e
    refine .inl ⟨_, rfl, by rw [szStr]; exact of_decide_eq_true c, ?_⟩
    rw [cutS_L]
    exact q _ G3 H3 (Nxt.refl n3.fz n3.bag) (.str _)
  | lst hx rl =>
    cases e
    exact .inr (.inl ⟨_, _, rfl, SqL.of (n3.fz _ _ hx), fun p hp => q_newL n3.fz n3.bag hp (rl.cut l h) q⟩)
  | scr hx =>
    cases e
    exact .inr (.inl ⟨_, _, rfl, SameF.seq n3.fz hx, fun p hp => q_newL n3.fz n3.bag hp ((RpL.ints _).cut l h) q⟩)
  | tup hx rl =>
    obtain ⟨c, e⟩ := M.guard_some e
    cases e
    refine .inr (.inr ⟨_, _, rfl, SameF.sqt n3.fz hx, ?_, fun p hp => q_newT n3.fz n3.bag hp (rl.cut l h) q⟩)
    rw [rl.length]
    rintro ⟨z1, z2⟩
    simp [z1, z2] at c
  | _ => cases e
def revD : D → M D
  | .str x => M.guard (szS x.length) (M.ret (.str x.reverse))
  | .lst x => M.ret (.lst x.reverse)
  | _ => M.fail
theorem RpL.one {K : PySem.W.Frag} {G : Hp} {vs : List V} {d : D} (r : RpL K G vs [d]) : ∃ v, vs = [v] ∧ Rp K G v d := by
  cases r with
  | cons r1 r2 => cases r2; exact ⟨_, rfl, r1⟩
def lenF : List D → M D
  | [.str x] => M.guard (szS x.length) (M.ret (.int x.length))
  | [.lst x] => M.ret (.int x.length)
  | [.tup x] => M.ret (.int x.length)
  | _ => M.fail
theorem snd_len : SndC X.K (fun xs H Q => ∃ x n, xs = [x] ∧ LenV X.K x H n ∧ Q (.int n) H) lenF := by
  intro G H b vs ds d b' Q r fz ob e q
  unfold lenF at e
  split at e
  · obtain ⟨v, rfl, r1⟩ := r.one
    cases r1
    obtain ⟨c, e⟩ := M.guard_some e
    cases e
    refine ⟨_, _, rfl, ⟨?_, rfl⟩, ?_⟩
    · rw [szStr]; exact of_decide_eq_true c
    · rw [szStr]; exact q _ _ _ (Nxt.refl fz ob) (.int _)
  · obtain ⟨v, rfl, r1⟩ := r.one
    cases r1 with
    | lst h rl => cases e; exact ⟨_, _, rfl, .inl ⟨_, SqL.of (fz _ _ h), rfl⟩, by rw [rl.length]; exact q _ _ _ (Nxt.refl fz ob) (.int _)⟩
  · obtain ⟨v, rfl, r1⟩ := r.one
    cases r1 with
    | tup h rl => cases e; exact ⟨_, _, rfl, .inr ⟨_, SameF.sqt fz h, rfl⟩, by rw [rl.length]; exact q _ _ _ (Nxt.refl fz ob) (.int _)⟩
  · cases e
def absF : List D → M D
  | [.int i] => M.ret (.int (if i < 0 then -i else i))
  | _ => M.fail
theorem snd_abs : SndC X.K (fun xs H Q => ∃ i, xs = [.int i] ∧ Q (.int (if i < 0 then -i else i)) H) absF := by
  intro G H b vs ds d b' Q r fz ob e q
  unfold absF at e
  split at e
  · obtain ⟨v, rfl, r1⟩ := r.one
    cases r1
    cases e
    exact ⟨_, rfl, q _ _ _ (Nxt.refl fz ob) (.int _)⟩
  · cases e
def intF : List D → M D
  | [.int i] => M.ret (.int i)
  | [.bl k] => M.ret (.int (if k then 1 else 0))
  | [.str x] => match PySem.intText? ⟨x.toArray⟩ with
    | some n => M.guard (decide (x.length ≤ 640)) (M.ret (.int n))
    | none => M.fail
  | _ => M.fail
theorem CallR.or {c : Value} {r r' : List V → Hp → VK → Prop} (h : CallR X c r) (h' : CallR X c r') : CallR X c (fun xs H Q => r xs H Q ∨ r' xs H Q) := by
  intro pins s σ H xs us Q I rs q
  rcases q with q | q
  · exact h pins s σ H xs us Q I rs q
  · exact h' pins s σ H xs us Q I rs q
theorem snd_int : SndC X.K (fun xs H Q => ((∃ i, xs = [.int i] ∧ Q (.int i) H) ∨ ∃ k, xs = [.bl k] ∧ Q (.int (if k then 1 else 0)) H) ∨ (∃ a n, xs = [.str a] ∧ PySem.intText? a = some n ∧ a.length ≤ 640 ∧ Q (.int n) H)) intF := by
  intro G H b vs ds d b' Q r fz ob e q
  unfold intF at e
  split at e
  · obtain ⟨v, rfl, r1⟩ := r.one
    cases r1
    cases e
    exact .inl (.inl ⟨_, rfl, q _ _ _ (Nxt.refl fz ob) (.int _)⟩)
  · obtain ⟨v, rfl, r1⟩ := r.one
    cases r1
    cases e
    exact .inl (.inr ⟨_, rfl, q _ _ _ (Nxt.refl fz ob) (.int _)⟩)
  · obtain ⟨v, rfl, r1⟩ := r.one
    cases r1
    rename_i x
    cases e1 : PySem.intText? ⟨x.toArray⟩ with
    | none => rw [e1] at e; cases e
    | some n =>
      rw [e1] at e
      obtain ⟨c, e⟩ := M.guard_some e
      cases e
      exact .inr ⟨_, n, rfl, e1, by rw [szStr]; exact of_decide_eq_true c, q _ _ _ (Nxt.refl fz ob) (.int _)⟩
  · cases e
variable {x : Str} {p : Pos} {e : Expr} {fa : Env → M (List D)}
theorem d_len (hg : Gl X "len") (hm : X.mg "len" = none) (ha : DA X [e] fa) (he : starEach [e] X.env = (false, eval e X.env) :: starEach [] X.env := by rfl) : DE X (.Call (.Name "len" p) [e] [] pos) (fun ρ => M.bind (fa ρ) lenF) :=
  d_callB call_len snd_len hg hm PySem.boot_len ha (he := he)
theorem d_abs (hg : Gl X "abs") (hm : X.mg "abs" = none) (ha : DA X [e] fa) (he : starEach [e] X.env = (false, eval e X.env) :: starEach [] X.env := by rfl) : DE X (.Call (.Name "abs" p) [e] [] pos) (fun ρ => M.bind (fa ρ) absF) :=
  d_callB call_abs snd_abs hg hm (by decide +kernel) ha (he := he)
theorem d_cint (hg : Gl X "int") (hm : X.mg "int" = none) (ha : DA X [e] fa) (he : starEach [e] X.env = (false, eval e X.env) :: starEach [] X.env := by rfl) : DE X (.Call (.Name "int" p) [e] [] pos) (fun ρ => M.bind (fa ρ) intF) :=
  d_callTy (CallR.or call_int1 call_int_str) snd_int hg hm (by decide +kernel) ha (he := he)
def asTs : List D → Option (List (List Nat))
  | [] => some []
  | .str x :: r => match asTs r with
    | some l => some (x :: l)
    | none => none
  | _ => none
theorem RpL.texts {K : PySem.W.Frag} {G : Hp} : ∀ {vs : List V} {ds : List D} {xs : List (List Nat)}, RpL K G vs ds → asTs ds = some xs → vs = (xs.map fun x => (⟨x.toArray⟩ : Str)).map V.str
  | _, _, _, .nil, h => by cases h; rfl
  | _, _, _, .cons (d := d) (ds := ds) a r, h => by
    cases a with
    | str x =>
      unfold asTs at h
      cases e : asTs ds with
      | none => rw [e] at h; cases h
      | some l =>
        rw [e] at h
        cases h
        rw [RpL.texts r e]
        rfl
    | _ => cases h
end
end DL
set_option Elab.async false
set_option maxRecDepth 100000
set_option autoImplicit false
set_option linter.unusedVariables false
set_option maxHeartbeats 4000000
namespace DL
open PySem L2 PySem.Spec PyProof.Rows
variable [TAB : TabList]
set_option linter.unusedSectionVars false
def spD (K : PySem.W.Frag) (n : Nat) (F : List D → M D) : Sp := fun vs H Q _ => ∃ G b ds d b', RpL K G vs ds ∧ ds.length = n ∧ SameF G H ∧ BagOk G H b ∧ F ds b = some (d, b') ∧
  ∀ v G' H', Nxt G H b G' H' b' → Rp K G' v d → Q v H'
def spN (K : PySem.W.Frag) (n : Nat) (F : List D → M (List D)) : Sp := fun vs H Q _ => ∃ G b ds xs b', RpL K G vs ds ∧ ds.length = n ∧ SameF G H ∧ BagOk G H b ∧ F ds b = some (xs, b') ∧
  ∀ p ws G' H', Nxt G H b G' H' b' → H p = none → G' p = none → H' p = some (.lst ws) → RpL K G' ws xs → Q (.ref p) H'
def startD (m : Nat) (ds : List D) : Env2 := ds.map (fun d => some (.val d)) ++ List.replicate (m - ds.length) none
def runD (m : Nat) (F : Env2 → M Out) (ds : List D) : M D := M.bind (F (startD m ds)) fun o => match o with
  | .rt d => M.ret d
  | .rn xs => M.ret (.lst xs)
  | .nx _ => M.ret .non
  | _ => M.fail
def runN (m : Nat) (F : Env2 → M Out) (ds : List D) : M (List D) := M.bind (F (startD m ds)) fun o => match o with
  | .rn xs => M.ret xs
  | _ => M.fail
theorem SI.start [EFF : Eff] {K : PySem.W.Frag} {N : List Str} {G H : Hp} {b : Bs} {vs : List V} {ds : List D} (r : RpL K G vs ds) (fz : SameF G H) (ob : BagOk G H b) : SI K ⟨G, H, b⟩ (L2.start N vs) (startD N.length ds) G H b := by
  have hl := r.length
  have old : ∀ (i : Nat) (s : Slot), (startD N.length ds)[i]? = some (some s) → ∃ d, ds[i]? = some d ∧ s = .val d := fun i s h => by
    unfold startD at h
    by_cases hi : i < ds.length
    · rw [List.getElem?_append_left (by simpa using hi), List.getElem?_map] at h
      rw [List.getElem?_eq_getElem hi] at h ⊢
      cases h
      exact ⟨_, rfl, rfl⟩
    · rw [List.getElem?_append_right (by simpa using hi)] at h
      by_cases h2 : i - (ds.map fun d => some (Slot.val d)).length < N.length - ds.length
      · rw [List.getElem?_replicate_of_lt h2] at h; cases h
      · rw [List.getElem?_eq_none (by simpa using h2)] at h; cases h
  refine ⟨fz, fun _ _ h => h, fun _ _ _ h => h, fun _ _ h _ _ => h, ob, b.like_refl, ?_, fun i d h => ?_, fun _ => [], fun i s o h1 h2 => ?_, fun i a ha => (nomatch ha), fun i => List.nodup_nil, fun i j a ha => (nomatch ha)⟩
  · unfold startD L2.start
    simp [hl]
  · obtain ⟨d', h1, h2⟩ := old i _ h
    cases h2
    obtain ⟨v, h3, h4⟩ := r.get h1
    refine ⟨v, ?_, h4⟩
    unfold L2.start
    have hi : i < vs.length := (List.getElem?_eq_some_iff.mp h3).1
    rw [List.getElem?_append_left (by simpa using hi), List.getElem?_map, h3]
    rfl
  · obtain ⟨d', e1, e2⟩ := old i _ h1
    rw [e2] at h2
    cases h2
theorem run_d {K : PySem.W.Frag} {N : List Str} {n : Nat} {Fs : Env2 → M Out} {vs : List V} {H : Hp} {Q : VK} {E : XK} (h : spD K n (runD N.length Fs) vs H Q E) : tS K Fs { nx := fun _ H' => Q .non H', rt := Q } (L2.start N vs) H := by
  obtain ⟨G, b, ds, d, b', r, hn, fz, ob, e, q⟩ := h
  obtain ⟨o, b1, e1, e2⟩ := M.bind_some e
  refine ⟨⟨G, H, b⟩, _, G, b, o, b1, SI.start r fz ob, e1, ?_⟩
  cases o with
  | rt d => cases e2; exact fun v G' H' n r => q v G' H' n r
  | rn xs =>
    cases e2
    intro p ws G' H' n hp gp hh r
    · have sg : Same G' (upd G' p (.lst ws)) := fun a o h => by rw [upd_ne (ne_of_none h gp)]; exact h
      refine q (.ref p) (upd G' p (.lst ws)) H' (.mk' (fun a o h => sg a o (n.gg a o h)) (n.fz.frz hh) (NxtB.keep n) (fun a o h hn => ?_) ?_ n.like) (.lst upd_same (r.mono sg))
      · rw [upd_ne (ne_of_none h hp)]; exact n.new a o h hn
      · exact n.bag.frz (by rw [← Bs.like_at n.like]; exact bag_ne ob hp) gp
  | nx ρ => cases e2; exact fun σ' G' H' I => q .non G' H' I.nxt .non
  | bk ρ => cases e2
  | ct ρ => cases e2
theorem run_n {K : PySem.W.Frag} {N : List Str} {n : Nat} {Fs : Env2 → M Out} {vs : List V} {H : Hp} {Q : VK} {E : XK} (h : spN K n (runN N.length Fs) vs H Q E) : tS K Fs { nx := fun _ H' => Q .non H', rt := Q } (L2.start N vs) H := by
  obtain ⟨G, b, ds, xs, b', r, hn, fz, ob, e, q⟩ := h
  obtain ⟨o, b1, e1, e2⟩ := M.bind_some e
  refine ⟨⟨G, H, b⟩, _, G, b, o, b1, SI.start r fz ob, e1, ?_⟩
  cases o with
  | rn xs => cases e2; exact fun p ws G' H' n hp gp hh r => q p ws G' H' n hp gp hh r
  | rt d => cases e2
  | nx ρ => cases e2
  | bk ρ => cases e2
  | ct ρ => cases e2
structure FnG (P : Program) (w : World) (K : PySem.W.Frag) (mg : Str → Option Value) (base : Heap) (k : Nat) (f : Addr) (fd : FuncData) (ps : List Str) (sp : Sp) : Prop where
  len : ∀ vs H Q E, sp vs H Q E → vs.length = ps.length
  run : ∀ (A : Around) (outer : List PySem.Env) (s : Shared) (H : Hp) (args : Args) (us : List Value) (vs : List V) (Q : VK), Room k A → A.guards = some [] →
    Env0 P w K mg base A outer s H → BindsTo s fd args (ps.zip us) → Vals vs us → sp vs H Q E0 → codeAny (model P w) A (.call (.ref f) args) (CR CX0 outer P w H s Q E0) s
section
variable {P : Program} {w : World} {K : PySem.W.Frag} {mg : Str → Option Value} {base : Heap}
theorem FnG.of {k : Nat} {f : Addr} {fd : FuncData} {ps : List Str} {sp : Sp} (F : FnOk P w K mg base CX0 k f fd ps sp) : FnG P w K mg base k f fd ps sp :=
  ⟨F.len, fun A outer s H args us vs Q hr _ e0 hb hv hs => F.run A outer s H args us vs Q E0 hr e0 hb hv hs⟩
theorem fn_g {x qual : Str} {st : Stmt} {f : Addr} {fd : FuncData} {N ps : List Str} {k : Nat} {sp : Sp} (F : Fun K x qual st f fd) (S : FnScope N ps (defScope st)) (len : ∀ vs H Q E, sp vs H Q E → vs.length = ps.length)
    (hbody : ∀ (cdv : Value) (A : Around) (outer : List PySem.Env) (s : Shared) (H : Hp) (vs : List V) (Q : VK), Room k (A.deeper (envOfC qual (defScope st) s.heap.objs.size f cdv)) → A.guards = some [] → sp vs H Q E0 →
      ∃ t, PSs (cxOf CX0 P w K mg base N qual (defScope st) f cdv A outer s H E0).nox (defBody st) t ∧ t { nx := fun _ H' => Q .non H', rt := Q } (L2.start N vs) H) : FnG P w K mg base (k + 1) f fd ps sp := by
  obtain ⟨oc, od, kV, doc, pm, an, cdv, ct, osl, rfl, lk, hcd⟩ := F.ex
  refine ⟨len, fun A outer s H args us vs Q hr hgd e0 hb r hsp => ?_⟩
  have hl := len _ _ _ _ hsp
  have bk := fun b o (e : base.get? b = some o) => (e0.bs b o e).1
  have KX : K.In s.heap := e0.mod.kin.keeps bk
  have lim : s.heap.NoLimit := e0.mod.nolimit.keeps bk
  refine codeAny_call_function hr.depth (KX _ _ lk) rfl S.co S.gen rfl (PySem.W.codeRec_of KX hcd) (hb _ _ _ _ ?_)
  refine wpAny_newFunctionEnv_cells S.kind (fun y hy => ?_) fun env he s1 x => ?_
  · rcases S.par y.1 (List.of_mem_zip (show (y.1, y.2) ∈ _ from hy)).1 with q | q
    · exact .inl q
    · exact .inr ⟨q, PySem.W.cellsFrom_some _ _ _ (.inl q)⟩
  subst he
  refine ⟨lim.keeps x.toInCall.keep, codeAny_func ?_⟩
  obtain ⟨t, ht, hq⟩ := hbody cdv A outer s H vs Q (hr.deeper _) hgd hsp
  have ht := ht.nox
  have I : Inv (cxOf CX0 P w K mg base N qual (defScope st) f cdv A outer s H E0) [] (L2.start N vs) H s1 := inv_start S hr.hd e0 hl r x
  refine wpAny_mono (ht.run [] s1 (L2.start N vs) H _ I hq) (fun fl s' hs => ?_) fun e s' hs => hs
  cases fl with
  | ret u => obtain ⟨v, σ', H', J, rv, q⟩ := hs; exact ⟨v, H', J.os, J.bare, J.base, J.hok, rv, q⟩
  | next => obtain ⟨σ', H', J, q⟩ := hs; exact ⟨.non, H', J.os, J.bare, J.base, J.hok, rfl, q⟩
  | brk => obtain ⟨_, _, _, q⟩ := hs; exact False.elim q
  | cont => obtain ⟨_, _, _, q⟩ := hs; exact False.elim q
theorem spD_len {n : Nat} {F : List D → M D} {ps : List Str} (hn : n = ps.length) : ∀ vs H Q E, spD K n F vs H Q E → vs.length = ps.length := by
  rintro vs H Q E ⟨G, b, ds, d, b', r, h, _⟩
  rw [r.length, h, hn]
theorem spN_len {n : Nat} {F : List D → M (List D)} {ps : List Str} (hn : n = ps.length) : ∀ vs H Q E, spN K n F vs H Q E → vs.length = ps.length := by
  rintro vs H Q E ⟨G, b, ds, d, b', r, h, _⟩
  rw [r.length, h, hn]
variable {x qual : Str} {st : Stmt} {f : Addr} {fd : FuncData} {N ps : List Str} {k : Nat} {Fs : Env2 → M Out}
theorem fnD (F : Fun K x qual st f fd) (S : FnScope N ps (defScope st)) (hb : ∀ (cdv : Value) (A : Around) (outer : List PySem.Env) (s : Shared) (H : Hp) (E : XK), Room k (A.deeper (envOfC qual (defScope st) s.heap.objs.size f cdv)) →
      DSs (cxOf CX0 P w K mg base N qual (defScope st) f cdv A outer s H E).nox (defBody st) Fs) : FnOk P w K mg base CX0 (k + 1) f fd ps (spD K ps.length (runD N.length Fs)) :=
  F.ok S (spD_len rfl) fun cdv A outer s H vs Q E hr h => ⟨_, hb cdv A outer s H E hr, run_d h⟩
theorem fnN (F : Fun K x qual st f fd) (S : FnScope N ps (defScope st)) (hb : ∀ (cdv : Value) (A : Around) (outer : List PySem.Env) (s : Shared) (H : Hp) (E : XK), Room k (A.deeper (envOfC qual (defScope st) s.heap.objs.size f cdv)) →
      DSs (cxOf CX0 P w K mg base N qual (defScope st) f cdv A outer s H E).nox (defBody st) Fs) : FnOk P w K mg base CX0 (k + 1) f fd ps (spN K ps.length (runN N.length Fs)) :=
  F.ok S (spN_len rfl) fun cdv A outer s H vs Q E hr h => ⟨_, hb cdv A outer s H E hr, run_n h⟩
end
section
variable {X : Cx} {k : Nat} {f : Addr} {fd : FuncData} {ps : List Str} {sp : Sp} {x : Str} {p pos : Pos} {e : Expr} {es : List Expr} {t : TA} {n : Nat} {Fn : List D → M D} {Fl : List D → M (List D)} {fa : Env → M (List D)}
theorem call_f {K : PySem.W.Frag} (hn : ∀ ρ b ds b', fa ρ b = some (ds, b') → ds.length = n) : ∀ σ H Q, tF K (fun ρ => M.bind (fa ρ) Fn) σ H Q → tCall (spD K n Fn) [] E0 (tFA K fa) σ H Q := by
  rintro σ H Q ⟨ρ, G, b, d, b', rs, fz, ob, e, q⟩
  obtain ⟨ds, b1, e1, e2⟩ := M.bind_some e
  refine ⟨ρ, G, b, ds, b1, rs, fz, ob, e1, fun vs G1 H1 n1 r1 => ?_⟩
  exact ⟨G1, b1, ds, d, b', by rw [List.append_nil]; exact r1, hn _ _ _ _ e1, n1.fz, n1.bag, e2, fun v G2 H2 n2 r2 => q v G2 H2 (n1.trans n2) r2⟩
theorem callN_f {K : PySem.W.Frag} (hn : ∀ ρ b ds b', fa ρ b = some (ds, b') → ds.length = n) : ∀ σ H Q, tN K (fun ρ => M.bind (fa ρ) Fl) σ H Q → tCall (spN K n Fl) [] E0 (tFA K fa) σ H Q := by
  rintro σ H Q ⟨ρ, G, b, d, b', rs, fz, ob, e, q⟩
  obtain ⟨ds, b1, e1, e2⟩ := M.bind_some e
  refine ⟨ρ, G, b, ds, b1, rs, fz, ob, e1, fun vs G1 H1 n1 r1 => ?_⟩
  exact ⟨G1, b1, ds, d, b', by rw [List.append_nil]; exact r1, hn _ _ _ _ e1, n1.fz, n1.bag, e2, fun p ws G2 H2 n2 hp gp hh r2 => q p ws G2 H2 (n1.trans n2) (n1.free hp) gp hh r2⟩
def ArN (fa : Env → M (List D)) (n : Nat) : Prop := ∀ ρ b ds b', fa ρ b = some (ds, b') → ds.length = n
theorem ar_nil : ArN (fun _ => M.ret []) 0 := fun ρ b ds b' h => by cases h; rfl
theorem ar_cons {f : Env → M D} {g : Env → M (List D)} {n : Nat} (h : ArN g n) : ArN (fun ρ => M.bind (f ρ) fun x => M.bind (g ρ) fun xs => M.ret (x :: xs)) (n + 1) := fun ρ b ds b' e => by
  obtain ⟨y, b1, _, e⟩ := M.bind_some e
  obtain ⟨l, b2, e2, e3⟩ := M.bind_some e
  cases e3
  simp [h _ _ _ _ e2]
theorem d_call (F : FnOk X.prog X.w X.K X.mg X.base CX0 k f fd ps (spD X.K n Fn)) (hr : Room k X.A) (hg : Gl X x) (hm : X.mg x = some (.ref f)) (hk : PySem.W.keepIn X.K (.ref f) = true) (hb : Binds X.K fd ps []) (ha : DA X (e :: es) fa) (hn : ArN fa n)
    (hdb : (x == ("__debug__" : Str)) = false := by decide) (he : starEach (e :: es) X.env = (false, eval e X.env) :: starEach es X.env := by rfl) (hpl : (backTo pos (starEach es X.env)).any (·.1) = false := by rfl) :
    DE X (.Call (.Name x p) (e :: es) [] pos) (fun ρ => M.bind (fa ρ) Fn) := PEimp (pe_call F hr hg hm hk hb .nil (fun _ _ _ _ _ _ _ h => h.elim) ha hdb he hpl) (call_f hn)
theorem dn_call (F : FnOk X.prog X.w X.K X.mg X.base CX0 k f fd ps (spN X.K n Fl)) (hr : Room k X.A) (hg : Gl X x) (hm : X.mg x = some (.ref f)) (hk : PySem.W.keepIn X.K (.ref f) = true) (hb : Binds X.K fd ps []) (ha : DA X (e :: es) fa) (hn : ArN fa n)
    (hdb : (x == ("__debug__" : Str)) = false := by decide) (he : starEach (e :: es) X.env = (false, eval e X.env) :: starEach es X.env := by rfl) (hpl : (backTo pos (starEach es X.env)).any (·.1) = false := by rfl) :
    DN X (.Call (.Name x p) (e :: es) [] pos) (fun ρ => M.bind (fa ρ) Fl) := PEimp (pe_call F hr hg hm hk hb .nil (fun _ _ _ _ _ _ _ h => h.elim) ha hdb he hpl) (callN_f hn)
end
section
variable {X : Cx}
end
end DL
set_option Elab.async false
set_option maxRecDepth 100000
set_option autoImplicit false
set_option linter.unusedVariables false
set_option maxHeartbeats 4000000
namespace DL
open PySem L2 PySem.Spec PyProof.Rows
variable [TAB : TabList]
variable [EFF : Eff]
set_option linter.unusedSectionVars false
def okA (d : D) : Bool := match toPy d with
  | some e => e.showable && SeqAt.shaped e && decide (e.shown.length ≤ sizeLine)
  | none => false
theorem eqDeep_same {d : D} (h : okA d = true) : eqDeep false d d = M.ret (.bl true) := by
  unfold okA at h
  unfold eqDeep
  cases e : toPy d with
  | none => rw [e] at h; cases h
  | some p =>
    rw [e] at h
    simp only [Bool.and_eq_true, decide_eq_true_eq] at h
    have h2 : (p.canLay0 && decide (p.depth ≤ 64)) = true := h.1.2
    rw [Bool.and_eq_true] at h2
    show M.guard (SeqAt.shaped p && SeqAt.shaped p) (M.ret (D.bl (PyData.eqv p p))) = _
    rw [h.1.2, SeqAt.eqv_refl p h2.1]
    rfl
def Okd (k w : Nat) (d : D) : Prop := ∃ e, toPy d = some e ∧ e.showable = true ∧ e.canLay0 = true ∧ e.depth ≤ k ∧ e.shown.length ≤ w
theorem Okd.ok {k w : Nat} {d : D} (h : Okd k w d) (hk : k ≤ 64) (hw : w ≤ sizeLine) : okA d = true := by
  obtain ⟨e, h1, h2, h3, h4, h5⟩ := h
  unfold okA
  rw [h1]
  show (e.showable && (e.canLay0 && decide (e.depth ≤ 64)) && decide (e.shown.length ≤ sizeLine)) = true
  rw [h2, h3, decide_eq_true (by omega : e.depth ≤ 64), decide_eq_true (by omega : e.shown.length ≤ sizeLine)]
  rfl
theorem Okd.str {x : List Nat} (h : x.all (fun c => decide (c < 1114112)) = true) : Okd 0 (10 * x.length + 8) (.str x) := by
  have h3 : PyData.canLay0 (.str ⟨x.toArray⟩) = true := by
    show (⟨x.toArray⟩ : Str).cps.all (fun c => decide (c < 0x110000)) = true
    simpa using h
  refine ⟨_, by unfold toPy; rfl, by simp [PyData.showable], h3, by simp [PyData.depth], ?_⟩
  have := PyData.shown_le 8 (Nat.le_refl _) (.str ⟨x.toArray⟩) (PyData.leavesShort_of_canLay0 8 _ h3 (by simp [PyData.intsShort]))
  have hw : PyData.weight (.str ⟨x.toArray⟩) = x.length := by simp [PyData.weight]
  rw [hw] at this
  exact this
theorem Okd.int {i : Int} (h : i.natAbs < 10 ^ 12) : Okd 0 13 (.int i) := by
  refine ⟨.int i, by unfold toPy; rfl, ?_, by simp [PyData.canLay0], by simp [PyData.depth], PyData.shown_int_le h⟩
  simp only [PyData.showable, decide_eq_true_eq]
  by_cases h0 : i.natAbs = 0
  · rw [h0]; decide
  · have : i.natAbs < 2 ^ 40 := Nat.lt_of_lt_of_le h (by decide)
    have := (Nat.log2_lt h0).mpr this
    omega
theorem Okd.bl (b : Bool) : Okd 0 5 (.bl b) := ⟨.bool b, by unfold toPy; rfl, by simp [PyData.showable], by simp [PyData.canLay0], by simp [PyData.depth], by cases b <;> decide +kernel⟩
theorem Okd.non : Okd 0 5 .non := ⟨.none, by unfold toPy; rfl, by simp [PyData.showable], by simp [PyData.canLay0], by simp [PyData.depth], by decide +kernel⟩
theorem Okd.mono {k k' w w' : Nat} {d : D} (h : Okd k w d) (hk : k ≤ k') (hw : w ≤ w') : Okd k' w' d := by
  obtain ⟨e, h1, h2, h3, h4, h5⟩ := h
  exact ⟨e, h1, h2, h3, Nat.le_trans h4 hk, Nat.le_trans h5 hw⟩
theorem Okd.all {k w : Nat} : ∀ {ds : List D}, (∀ d ∈ ds, Okd k w d) → ∃ es, toPyL ds = some es ∧ PyData.showableAll es = true ∧ PyData.canLayAll0 es = true ∧ PyData.depthAll es ≤ k ∧ ((PyData.shownAll es).map (·.length)).sum ≤ ds.length * w ∧ (PyData.shownAll es).length = ds.length
  | [], _ => ⟨[], by unfold toPyL; rfl, by simp [PyData.showableAll], by simp [PyData.canLayAll0], by simp [PyData.depthAll], by simp [PyData.shownAll], by simp [PyData.shownAll]⟩
  | d :: ds, h => by
    obtain ⟨e, h1, h2, h3, h4, h5⟩ := h d (by simp)
    obtain ⟨es, g1, g2, g3, g4, g5, g6⟩ := Okd.all (ds := ds) fun d' hd => h d' (by simp [hd])
    refine ⟨e :: es, by unfold toPyL; rw [h1, g1], by simp [PyData.showableAll, h2, g2], by simp [PyData.canLayAll0, h3, g3], by simp only [PyData.depthAll]; omega, ?_, by simp [PyData.shownAll, g6]⟩
    simp only [PyData.shownAll, List.map_cons, List.sum_cons, List.length_cons]
    rw [Nat.succ_mul]
    omega
theorem Okd.lst {k w : Nat} {ds : List D} (h : ∀ d ∈ ds, Okd k w d) : Okd (k + 1) (ds.length * (w + 2) + 3) (.lst ds) := by
  obtain ⟨es, g1, g2, g3, g4, g5, g6⟩ := Okd.all h
  refine ⟨.list es, by unfold toPy; rw [g1], by simp [PyData.showable, g2], by simp [PyData.canLay0, g3], by simp only [PyData.depth]; omega, ?_⟩
  simp only [PyData.shown]
  have := listText_len_le (PyData.shownAll es)
  rw [g6] at this
  rw [Nat.mul_add]
  omega
theorem Okd.tup {k w : Nat} {ds : List D} (h : ∀ d ∈ ds, Okd k w d) : Okd (k + 1) (ds.length * (w + 2) + 3) (.tup ds) := by
  obtain ⟨es, g1, g2, g3, g4, g5, g6⟩ := Okd.all h
  refine ⟨.tuple es, by unfold toPy; rw [g1], by simp [PyData.showable, g2], by simp [PyData.canLay0, g3], by simp only [PyData.depth]; omega, ?_⟩
  simp only [PyData.shown]
  have := tupleText_len_le (PyData.shownAll es)
  rw [g6] at this
  rw [Nat.mul_add]
  omega
theorem SI.bagset {K : PySem.W.Frag} {E : En} {σ : L2.St} {ρ : Env2} {G H : Hp} {g g' : Bg} (I : SI K E σ ρ G H (some g)) (h1 : g.p = g'.p) (h2 : g.q = g'.q) (h3 : g.cs = g'.cs ∧ g.st = g'.st) :
    SI K E σ ρ G (upd H g.p (.lst [.int g'.z0, .int g'.z1, .int g'.z2, .ref g'.q])) (some g') := by
  obtain ⟨⟨o1, o2, o3, o4⟩, ot⟩ := I.bag
  have eb : E.b.hit g.p := by rw [Bs.like_at I.like]; exact .inl rfl
  refine ⟨fun a o h => ?_, I.g0, I.new, fun a o h hb hg => ?_, ⟨⟨by rw [← h1]; exact o1, by rw [← h1, upd_same], by rw [← h2, ← h3.1]; exact o3, by rw [← h3.2]; exact o4.ext (fun _ _ h => h) (fun _ _ h => h) fun a k z => upd_ne (ne_of_none z o1)⟩, fun p hp => ⟨(ot p hp).1, TabS.mut (ot p hp).2 ?_ (nc_of o2)⟩⟩, ?_, I.len, I.val, ?_⟩
  · rw [upd_ne (ne_of_none h o1)]; exact I.fz a o h
  · rw [upd_ne fun z => hb (by rw [z]; exact eb)]; exact I.keep a o h hb hg
  · obtain ⟨_, ps, z, _⟩ := ot p hp
    exact ne_of z o2 (fun z => by cases z)
  · exact Bs.like_trans I.like ⟨h1, h2, h3.1, fun _ => h3.2⟩
  · obtain ⟨fp, w⟩ := I.own
    have ne : ∀ i a, a ∈ fp i → a ≠ g.p := fun i a ha z => (w.ok i a ha).2.2.1 (by rw [z]; exact .inl rfl)
    refine ⟨fp, fun i s o k1 k2 => ?_, fun i a ha => ?_, w.nd, w.dj⟩
    · obtain ⟨v, k3, k4⟩ := w.at_ i s o k1 k2
      exact ⟨v, k3, k4.mono (fun _ _ h => h) fun a ha => upd_ne (ne i a ha)⟩
    · obtain ⟨k1, k2, k3, k4⟩ := w.ok i a ha
      refine ⟨k1, k2, ?_, by rw [upd_ne (ne i a ha)]; exact k4⟩
      rintro (z | z)
      · apply k3
        refine .inl ?_
        show some g.p = some a
        rw [h1]; exact z
      · exact k3 (.inr z)
def putB (k : Int) (n : Int) (g : Bg) : Option Bg := if k = 0 then some { g with z0 := n } else if k = 1 then some { g with z1 := n } else if k = 2 then some { g with z2 := n } else none
theorem putB_some {k n : Int} {g g' : Bg} (h : putB k n g = some g') : g.p = g'.p ∧ g.q = g'.q ∧ (g.cs = g'.cs ∧ g.st = g'.st) ∧ ∃ j, ixN 4 k = some j ∧ [V.int g'.z0, .int g'.z1, .int g'.z2, .ref g'.q] = [V.int g.z0, .int g.z1, .int g.z2, .ref g.q].set j (.int n) := by
  unfold putB at h
  by_cases h0 : k = 0
  · rw [if_pos h0] at h; cases h; subst h0; exact ⟨rfl, rfl, ⟨rfl, rfl⟩, 0, rfl, rfl⟩
  · rw [if_neg h0] at h
    by_cases h1 : k = 1
    · rw [if_pos h1] at h; cases h; subst h1; exact ⟨rfl, rfl, ⟨rfl, rfl⟩, 1, rfl, rfl⟩
    · rw [if_neg h1] at h
      by_cases h2 : k = 2
      · rw [if_pos h2] at h; cases h; subst h2; exact ⟨rfl, rfl, ⟨rfl, rfl⟩, 2, rfl, rfl⟩
      · rw [if_neg h2] at h; cases h
def bagPut (j : Nat) (k : Int) (d : D) (ρ : Env2) : M Out := fun b => match ρ[j]?, d, b with
  | some (some (.val (.bag p))), .int n, some g => if g.p = p then (putB k n g).map fun g' => (.nx ρ, some g') else none
  | _, _, _ => none
theorem bagPut_some {j : Nat} {k : Int} {d : D} {ρ : Env2} {b b' : Bs} {o : Out} (h : bagPut j k d ρ b = some (o, b')) : ∃ n g g', ρ[j]? = some (some (.val (.bag g.p))) ∧ d = .int n ∧ b = some g ∧ b' = some g' ∧ o = .nx ρ ∧ putB k n g = some g' := by
  unfold bagPut at h
  split at h
  · rename_i p n g e1
    by_cases hp : g.p = p
    · rw [if_pos hp] at h
      cases e : putB k n g with
      | none => rw [e] at h; cases h
      | some g' => rw [e] at h; cases h; exact ⟨n, g, g', by rw [hp]; exact e1, rfl, rfl, rfl, rfl, e⟩
    · rw [if_neg hp] at h; cases h
  · cases h
def bagSetM (j : Nat) (k : Int) (ms : List Nat) (f : Env → M D) (ρ : Env2) : M Out := M.bind (f (view ms ρ)) fun d => bagPut j k d ρ
section
variable {X : Cx} {pos : Pos}
theorem s_bagset (j : Nat) (ms : List Nat) {k : Int} {x : Str} {e : Expr} {f : Env → M D} {p1 p2 p3 : Pos} {kk : Nat} (he : DE X e f) (hN : X.N[j]? = some x := by rfl) (hv : Vis X.env.scope x := by first | exact Or.inl rfl | exact Or.inr (Or.inl rfl) | exact Or.inr (Or.inr rfl))
    (hd : (x == ("__debug__" : Str)) = false := by decide) (hcd : (x == ("__classdict__" : Str)) = false := by decide)
    (hs : swapsWithSole [.Subscript (.Name x p1) (.Constant (.int k) kk p2) p3] e pos.line X.env = pure false := by rfl) (hw : swappedStores [.Subscript (.Name x p1) (.Constant (.int k) kk p2) p3] e X.env = pure none := by rfl) :
    DS X (.Assign [.Subscript (.Name x p1) (.Constant (.int k) kk p2) p3] e pos) (bagSetM j k ms f) := by
  refine PSimp (ps_asg he (pg_sub (pe_var hN hv hd hcd) pe_int set_list) hs hw) ?_
  rintro D σ H ⟨E, ρ, G, b, o, b', I, e, q⟩
  obtain ⟨d, b1, e1, e2⟩ := M.bind_some e
  obtain ⟨n, g, g', hj, rfl, rfl, rfl, rfl, hp⟩ := bagPut_some e2
  refine ⟨_, _, b, _, _, I.rs ms, I.gp2 ms, I.gpb ms, e1, fun v G1 H1 n1 r => ?_⟩
  cases r
  have I2 := I.flat n1
  obtain ⟨v, h1, h2⟩ := I2.val j _ hj
  cases h2
  obtain ⟨l1, l2, l3, jj, hix, hset⟩ := putB_some hp
  refine ⟨_, h1, g.p, _, k, jj, rfl, rfl, I2.bag.1.2.1, hix, ?_⟩
  have I3 := I2.bagset l1 l2 l3
  rw [hset] at I3
  exact q _ _ _ I3
def rGetL (K : PySem.W.Frag) : V → V → Hp → VK → Prop := fun o i H Q => ∃ (p : Addr) (xs : List V) (k : Int) (v : V), o = .ref p ∧ i = .int k ∧ 0 ≤ k ∧ SqL K H p xs ∧ xs[k.toNat]? = some v ∧ Q v H
theorem get_list : PGet X (rGetL X.K) := by
  intro pins s σ H o i ov iv Q I ro ri h
  obtain ⟨p, xs, k, v, rfl, rfl, h0, hq, hx, q⟩ := h
  cases ro
  obtain ⟨t, rfl⟩ := ri
  obtain ⟨its, r, pl, hz⟩ := I.list hq
  obtain ⟨w, ew, rw'⟩ := r.get hx
  have hl : k.toNat < xs.length := (List.getElem?_eq_some_iff.mp hx).1
  have hn := line63
  exact wpAny_getItem_list pl.isList h0 (by omega) (by simpa using ew) ⟨v, H, I, rw', q⟩
def bagAugM (j : Nat) (k : Int) (ms : List Nat) (f : Env → M D) (ρ : Env2) : M Out := M.bind (f (view ms ρ)) fun d => fun b => match d, b with
  | .int n, some g => bagPut j k (.int ((if k = 0 then g.z0 else if k = 1 then g.z1 else g.z2) + n)) ρ (some g)
  | _, _ => none
theorem s_bagaug (j : Nat) (ms : List Nat) {k n : Int} {x : Str} {p1 p2 p3 p4 : Pos} {kk kn : Nat} (hk : k = 0 ∨ k = 1 ∨ k = 2) (hN : X.N[j]? = some x := by rfl) (hv : Vis X.env.scope x := by first | exact Or.inl rfl | exact Or.inr (Or.inl rfl) | exact Or.inr (Or.inr rfl))
    (hd : (x == ("__debug__" : Str)) = false := by decide) (hcd : (x == ("__classdict__" : Str)) = false := by decide) :
    DS X (.AugAssign (.Subscript (.Name x p1) (.Constant (.int k) kk p2) p3) .Add (.Constant (.int n) kn p4) pos) (bagAugM j k ms fun _ => M.ret (.int n)) := by
  refine PSimp (ps_augS (pe_var hN hv hd hcd) pe_int get_list pe_int ip_add set_list) ?_
  rintro D σ H ⟨E, ρ, G, b, o, b', I, e, q⟩
  obtain ⟨d, b1, e1, e2⟩ := M.bind_some e
  cases e1
  cases b with
  | none => cases e2
  | some g =>
    obtain ⟨m, g0, g', hj, e0, e3, rfl, rfl, hp⟩ := bagPut_some e2
    cases e0
    cases e3
    obtain ⟨v, h1, h2⟩ := I.val j _ hj
    cases h2
    obtain ⟨l1, l2, l3, jj, hix, hset⟩ := putB_some hp
    refine ⟨_, h1, g.p, [.int g.z0, .int g.z1, .int g.z2, .ref g.q], k, .int (if k = 0 then g.z0 else if k = 1 then g.z1 else g.z2), rfl, rfl, ?_, SqL.of I.bag.1.2.1, ?_, _, n, rfl, rfl, g.p, _, k, jj, rfl, rfl, I.bag.1.2.1, hix, ?_⟩
    · rcases hk with rfl | rfl | rfl <;> decide
    · rcases hk with rfl | rfl | rfl <;> rfl
    · have I3 := I.bagset l1 l2 l3
      rw [hset] at I3
      exact q _ _ _ I3
end
def okB (p : Addr) (g : Bg) : Prop := g.p = p ∧ 0 ≤ g.z2
def Tot {α : Type} (p : Addr) (m : M α) (P : α → Prop) : Prop := ∀ g, okB p g → ∃ a g', m (some g) = some (a, some g') ∧ (okB p g' ∧ g'.st = g.st) ∧ P a
theorem Tot.ret {α : Type} {p : Addr} {a : α} {P : α → Prop} (h : P a) : Tot p (M.ret a) P := fun g hg => ⟨a, g, rfl, ⟨hg, rfl⟩, h⟩
theorem Tot.bind {α β : Type} {p : Addr} {m : M α} {f : α → M β} {P : α → Prop} {Q : β → Prop} (h : Tot p m P) (k : ∀ a, P a → Tot p (f a) Q) : Tot p (M.bind m f) Q := fun g hg => by
  obtain ⟨a, g1, e1, h1, p1⟩ := h g hg
  obtain ⟨c, g2, e2, h2, p2⟩ := k a p1 g1 h1.1
  exact ⟨c, g2, by rw [M.bind_eq e1]; exact e2, ⟨h2.1, h2.2.trans h1.2⟩, p2⟩
theorem Tot.mono {α : Type} {p : Addr} {m : M α} {P Q : α → Prop} (h : Tot p m P) (k : ∀ a, P a → Q a) : Tot p m Q := fun g hg => by
  obtain ⟨a, g1, e1, h1, p1⟩ := h g hg
  exact ⟨a, g1, e1, h1, k a p1⟩
def TotS {α : Type} (p : Addr) (st : List Cell) (m : M α) (P : α → List Cell → Prop) : Prop := ∀ g, okB p g → g.st = st → ∃ a g', m (some g) = some (a, some g') ∧ okB p g' ∧ P a g'.st
theorem TotS.ret {α : Type} {p : Addr} {st : List Cell} {a : α} {P : α → List Cell → Prop} (h : P a st) : TotS p st (M.ret a) P := fun g hg e => ⟨a, g, rfl, hg, by rw [e]; exact h⟩
theorem TotS.bind {α β : Type} {p : Addr} {st : List Cell} {m : M α} {f : α → M β} {P : α → List Cell → Prop} {Q : β → List Cell → Prop} (h : TotS p st m P) (k : ∀ a st', P a st' → TotS p st' (f a) Q) : TotS p st (M.bind m f) Q := fun g hg e => by
  obtain ⟨a, g1, e1, h1, p1⟩ := h g hg e
  obtain ⟨c, g2, e2, h2, p2⟩ := k a _ p1 g1 h1 rfl
  exact ⟨c, g2, by rw [M.bind_eq e1]; exact e2, h2, p2⟩
theorem TotS.mono {α : Type} {p : Addr} {st : List Cell} {m : M α} {P Q : α → List Cell → Prop} (h : TotS p st m P) (k : ∀ a st', P a st' → Q a st') : TotS p st m Q := fun g hg e => by
  obtain ⟨a, g1, e1, h1, p1⟩ := h g hg e
  exact ⟨a, g1, e1, h1, k a _ p1⟩
theorem Tot.s {α : Type} {p : Addr} {st : List Cell} {m : M α} {P : α → Prop} (h : Tot p m P) : TotS p st m fun a st' => st' = st ∧ P a := fun g hg e => by
  obtain ⟨a, g1, e1, h1, p1⟩ := h g hg
  exact ⟨a, g1, e1, h1.1, h1.2.trans e, p1⟩
theorem TotS.tot {α : Type} {p : Addr} {m : M α} {P : α → Prop} (h : ∀ st, TotS p st m fun a st' => st' = st ∧ P a) : Tot p m P := fun g hg => by
  obtain ⟨a, g1, e1, h1, e2, p1⟩ := h g.st g hg rfl
  exact ⟨a, g1, e1, ⟨h1, e2⟩, p1⟩
end DL
set_option Elab.async false
set_option maxRecDepth 100000
set_option autoImplicit false
set_option linter.unusedVariables false
set_option maxHeartbeats 4000000
namespace DL
open PySem L2 PySem.Spec PyProof.Rows
variable [TAB : TabList]
variable [EFF : Eff]
set_option linter.unusedSectionVars false
def spLaw (K : PySem.W.Frag) : Sp := fun vs H Q _ => ∃ (a : Addr) (ns : List Int), vs = [.ref a] ∧ SqL K H a (ns.map V.int) ∧ ns.length ≤ 63 ∧ (∀ p ∈ TAB.T, LamX.TabS H p.1 p.2) ∧ ∀ H', Q (.bl true) H'
noncomputable def noTab (H : Hp) : Hp := fun a =>
  haveI := Classical.propDecidable ((∃ q, (a, q) ∈ TAB.T) ∨ ∃ k, H a = some (ghost k))
  if (∃ q, (a, q) ∈ TAB.T) ∨ ∃ k, H a = some (ghost k) then none else H a
theorem noTab_in {H : Hp} {p : Addr × Str} (h : p ∈ TAB.T) : noTab H p.1 = none := by
  unfold noTab
  exact if_pos (.inl ⟨p.2, h⟩)
theorem noTab_same {H : Hp} : SameF (noTab H) H := fun a o h => by
  haveI := Classical.propDecidable ((∃ q, (a, q) ∈ TAB.T) ∨ ∃ k, H a = some (ghost k))
  unfold noTab at h
  by_cases c : (∃ q, (a, q) ∈ TAB.T) ∨ ∃ k, H a = some (ghost k)
  · rw [if_pos c] at h; cases h
  · rw [if_neg c] at h; exact frOk_of h
theorem noTab_gh {H : Hp} (a : Addr) (k : Nat) : noTab H a ≠ some (ghost k) := fun h => by
  haveI := Classical.propDecidable ((∃ q, (a, q) ∈ TAB.T) ∨ ∃ k, H a = some (ghost k))
  unfold noTab at h
  by_cases c : (∃ q, (a, q) ∈ TAB.T) ∨ ∃ k, H a = some (ghost k)
  · rw [if_pos c] at h; cases h
  · rw [if_neg c] at h; exact c (.inr ⟨k, h⟩)
theorem noTab_of {H : Hp} (ht : ∀ p ∈ TAB.T, LamX.TabS H p.1 p.2) {a : Addr} {o : HO} (h : H a = some o) (n : ∀ ps, o ≠ .tbl ps) (ng : ∀ k, o ≠ ghost k := by intro k z; cases z) : noTab H a = some o := by
  unfold noTab
  rw [if_neg]
  · exact h
  · rintro (⟨q, c⟩ | ⟨k, c⟩)
    · obtain ⟨ps, z, _⟩ := ht _ c
      have z : H a = some (.tbl ps) := z
      rw [h] at z
      exact n _ (Option.some.inj z)
    · rw [h] at c
      exact ng k (Option.some.inj c)
theorem noTab_sq {K : PySem.W.Frag} {H : Hp} (ht : ∀ p ∈ TAB.T, LamX.TabS H p.1 p.2) {a : Addr} {xs : List V} (h : SqL K H a xs) : SqL K (noTab H) a xs := by
  rcases h with (h | ⟨o, h⟩) | h
  · exact .inl (.inl (noTab_of ht h fun ps z => by cases z))
  · exact .inl (.inr ⟨o, noTab_of ht h fun ps z => by cases z⟩)
  · exact .inr h
def env0 (n : Nat) (p : Addr) : Env2 := none :: some (.val (.bag p)) :: List.replicate n none
theorem ints_of {K : PySem.W.Frag} {G : Hp} : ∀ {vs : List V} {cs : List Int}, RpL K G vs (cs.map D.int) → vs = cs.map V.int
  | _, [], .nil => rfl
  | _, c :: cs, .cons a r => by
    cases a
    rw [ints_of (cs := cs) r]
    rfl
theorem law_run {K : PySem.W.Frag} {N : List Str} {n : Nat} {FB : List D → M (List D)} {Fs : Env2 → M Out} {vs : List V} {H : Hp} {Q : VK} {E : XK} (hN : N.length = n + 2)
    (hbag : ∀ ns : List Int, ns.length ≤ 63 → ∃ cs : List Int, FB [.scr ns] none = some ([.int 0, .int 1234567891, .int 0, .lst (cs.map D.int)], none))
    (hmath : ∀ (p : Addr), Tot p (Fs (env0 n p)) fun o => o = .rt (.bl true))
    (h : spLaw K vs H Q E) : tSeq (tAsg (tCall (spN K 1 FB) [] E0 (tFA K fun ρ => M.bind (rdEnv 0 ρ) fun x => M.bind (M.ret []) fun xs => M.ret (x :: xs))) (gName 1)) (tS K Fs) { nx := fun _ H' => Q .non H', rt := Q } (L2.start N vs) H := by
  obtain ⟨a, ns, rfl, hs, hl, ht, q⟩ := h
  obtain ⟨cs, hb⟩ := hbag ns hl
  refine ⟨[some (.scr ns)], noTab H, none, [.scr ns], none, ⟨?_, fun i d hi => ?_⟩, noTab_same, ⟨noTab_gh, fun p hp => ⟨noTab_in hp, ht p hp⟩⟩, rfl, fun vs G' H' n1 r => ?_⟩
  · unfold L2.start; simp
  · cases i with
    | zero => cases hi; exact ⟨.ref a, rfl, .scr (noTab_sq ht hs)⟩
    | succ i => cases hi
  · refine ⟨G', none, [.scr ns], _, none, by rw [List.append_nil]; exact r, rfl, n1.fz, n1.bag, hb, fun p ws G2 H2 n2 hp gp hh r2 => ?_⟩
    have np : H p = none := n1.free hp
    cases r2 with
    | cons a1 r2 =>
    cases a1
    cases r2 with
    | cons a2 r2 =>
    cases a2
    cases r2 with
    | cons a3 r2 =>
    cases a3
    cases r2 with
    | cons a4 r2 =>
    cases r2
    cases a4 with
    | @lst qq vs4 _ hq rq =>
      have ev := ints_of rq
      subst ev
      obtain ⟨o, g', e, _, ho⟩ := hmath p ⟨p, qq, 0, 1234567891, 0, cs, []⟩ ⟨rfl, Int.le_refl 0⟩
      subst ho
      refine ⟨⟨G2, H2, some ⟨p, qq, 0, 1234567891, 0, cs, []⟩⟩, env0 n p, G2, some ⟨p, qq, 0, 1234567891, 0, cs, []⟩, .rt (.bl true), some g', ?_, e, ?_⟩
      · have slot : ∀ (i : Nat) (s : Slot), (env0 n p)[i]? = some (some s) → i = 1 ∧ s = .val (.bag p) := fun i s h => by
          unfold env0 at h
          match i with
          | 0 => cases h
          | 1 => cases h; exact ⟨rfl, rfl⟩
          | i + 2 =>
            simp only [List.getElem?_cons_succ] at h
            by_cases hi : i < n
            · rw [List.getElem?_replicate_of_lt hi] at h; cases h
            · rw [List.getElem?_eq_none (by simpa using hi)] at h; cases h
        refine ⟨n2.fz, fun _ _ h => h, fun _ _ _ h => h, fun _ _ h _ _ => h, ⟨⟨gp, hh, hq, CelOk.nil fun a k z => n2.bag.1 a k z⟩, n2.bag.2⟩, Bs.like_refl _, ?_, fun i d h => ?_, fun _ => [], fun i s o h1 h2 => ?_, fun i a ha => (nomatch ha), fun i => List.nodup_nil, fun i j a ha => (nomatch ha)⟩
        · unfold env0 L2.start
          simp [hN]
        · obtain ⟨rfl, h2⟩ := slot i _ h
          cases h2
          refine ⟨.ref p, ?_, .bag p⟩
          unfold L2.start
          rw [hN]
          simp
        · obtain ⟨_, h3⟩ := slot i _ h1
          rw [h3] at h2
          cases h2
      · intro v G3 H3 n3 rv
        cases rv
        exact q H3
theorem law_callG {P : Program} {w : World} {K : PySem.W.Frag} {mg mb : Str → Option Value} {k : Nat} {fa a : Addr} {fd : FuncData} {x : Str} {s1 : Shared} {vs : List Value} {ns : List Int}
    (KX : K.In s1.heap) (hns : s1.heap.Ns mainGlobals mg) (hb : s1.heap.Ns builtinsNs mb) (hbb : ∀ x : Str, x ≠ "__name__" → mb x = bootBuiltins x) (hlim : s1.heap.NoLimit) (hg : s1.gens = #[])
    (ha : s1.heap.get? a = some { cls := .type "list", data := .seq vs.toArray }) (hi : IntsAre vs ns) (hl : ns.length ≤ 63) (hr : Room k callerA)
    (F : ∀ base : Heap, K.In base → base.Ns mainGlobals mg → FnG P w K mg base k fa fd [x] (spLaw K)) (hbind : ∀ (s : Shared) (u : Value), BindsTo s fd ⟨[u], []⟩ [(x, u)]) (nt : TAB.T = []) :
    codeAny (model P w) callerA (.call (.ref fa) ⟨[.ref a], []⟩) (fun r s' => r = .ok (.ret (.bool true)) ∧ OldK s1.heap s'.heap ∧ s'.os = s1.os ∧ AllBare s'.gens) s1 := by
  have rv := vals_ints hi
  have hsz : ns.length ≤ sizeLine := Nat.le_trans hl (by decide)
  have main : ∀ H : Hp, Only H → SqL K H a (ns.map V.int) → HOk P w H s1.heap → (∀ b u, H b = some u → b = a ∧ K.lookup a = none) →
      codeAny (model P w) callerA (.call (.ref fa) ⟨[.ref a], []⟩) (fun r s' => r = .ok (.ret (.bool true)) ∧ OldK s1.heap s'.heap ∧ s'.os = s1.os ∧ AllBare s'.gens) s1 := by
    intro H hO hS hok hA
    have dict_free : ∀ {b : Addr} {o : Obj} {es : Array DictEntry} {ep : Nat}, s1.heap.get? b = some o → o.data = .dict es ep → H b = none := by
      intro b o es ep e d
      cases q : H b with
      | none => rfl
      | some u =>
        obtain ⟨rfl, _⟩ := hA b u q
        rw [ha] at e
        cases e
        cases (show Data.seq vs.toArray _ = Data.dict es ep from d)
    have nsK : ∀ {b : Addr} {m : Str → Option Value}, s1.heap.Ns b m → (hidT s1.heap H).Ns b m := by
      rintro b m ⟨o, es, ep, e, d, r⟩
      exact ⟨o, es, ep, hidT_get e (dict_free e d), d, r⟩
    have hKb : K.In (hidT s1.heap H) := by
      intro b o e
      refine hidT_get (KX b o e) ?_
      cases q : H b with
      | none => rfl
      | some u =>
        obtain ⟨rfl, h2⟩ := hA b u q
        rw [h2] at e; cases e
    have lim : (hidT s1.heap H).NoLimit := by
      obtain ⟨mc, h1, h2⟩ := hlim
      exact ⟨mc, nsK h1, h2⟩
    have e0 : Env0 P w K mg (hidT s1.heap H) callerA [] s1 H :=
      ⟨rfl, ⟨hKb, nsK hns, ⟨mb, nsK hb, hbb⟩, lim⟩, fun b o e => of_hidT e, Nat.le_of_eq (hidT_size _ _), trivial, fun b hb => (nomatch (show b ∈ ([] : List Addr) from hb)), hok, .of_eq hg⟩
    have fin := (F _ hKb (nsK hns)).run callerA [] s1 H ⟨[.ref a], []⟩ [.ref a] [.ref a] (fun v _ => v = .bl true) hr rfl e0 (hbind s1 (.ref a)) (.cons rfl .nil) ⟨a, ns, rfl, hS, hl, (fun p hp => absurd (nt ▸ hp : p ∈ ([] : List (Addr × Str))) (by simp)), fun _ => rfl⟩
    refine codeAny_mono fin fun r s' h => ?_
    cases r with
    | error e => exact False.elim h
    | ok fl =>
      cases fl with
      | next => exact False.elim h
      | brk => exact False.elim h
      | cont => exact False.elim h
      | ret u =>
        obtain ⟨v, H', os, bare, un, hok', r', q⟩ := h
        have q : v = .bl true := q
        subst q
        cases (show u = Value.bool true from r')
        refine ⟨rfl, OldK.of_keep fun b o e => ?_, os, bare⟩
        rcases hO b with z | ⟨ob, xs, z⟩
        · exact un.keep b o e z (by intro h; cases h) (by intro h; cases h)
        · have e1 := (hok b _ z).1
          have e2 := (hok' b _ (un.frzs b ob _ z)).1
          rw [e] at e1
          cases e1
          exact e2
  cases hk : K.lookup a with
  | some o =>
    have e := KX a o hk
    rw [ha] at e
    cases e
    refine main (fun _ => none) (fun _ => .inl rfl) (.inr ⟨_, vs.toArray, _, hk, rfl, rfl, rfl, ?_, by simpa using rv⟩) (fun b u z => nomatch z) (fun b u z => nomatch z)
    rw [List.size_toArray, hi.length]; exact hsz
  | none =>
    let ob : Obj := { cls := .type "list", data := .seq vs.toArray }
    refine main (fun b => if b = a then some (.frz ob (.lst (ns.map V.int))) else none) (fun b => ?_) (.inl (.inr ⟨ob, if_pos rfl⟩)) (fun b u z => ?_) (fun b u z => ?_)
    · by_cases hb : b = a
      · exact .inr ⟨_, _, if_pos hb⟩
      · exact .inl (if_neg hb)
    · replace z : (if b = a then some (HO.frz ob (.lst (ns.map V.int))) else none) = some u := z
      by_cases hb : b = a
      · rw [if_pos hb] at z
        cases z
        subst hb
        exact ⟨ha, by rw [List.length_map]; exact hsz, vs, _, rv, ha⟩
      · rw [if_neg hb] at z; cases z
    · replace z : (if b = a then some (HO.frz ob (.lst (ns.map V.int))) else none) = some u := z
      by_cases hb : b = a
      · exact ⟨hb, hk⟩
      · rw [if_neg hb] at z; cases z
theorem walk_g {l : PySem.W.OpenLaw} {k : Nat} {q : Program} {loose : List Str} {XP : (Str → Option Value) → Heap → Prop} {YP : World → Heap → Prop} {d : DefRec} {K : Params → PySem.W.Frag} {x : Str}
    (hn : l.most = some 63) (hdf : d.params.defaults = []) (hr : Room k callerA) (hY : ∀ (w : World) (h : Heap), YP w h → (K w.params).In h)
    (F : ∀ (w : World) (mg : Str → Option Value) (fa : Addr) (h : Heap), (K w.params).In h → h.Ns mainGlobals mg → mg d.name = some (.ref fa) →
      ∃ fd : FuncData, (∀ (s : Shared) (u : Value), BindsTo s fd ⟨[u], []⟩ [(x, u)]) ∧ ∀ base : Heap, (K w.params).In base → base.Ns mainGlobals mg → FnG l.prog w (K w.params) mg base k fa fd [x] (spLaw (K w.params))) (nt : TAB.T = [] := by rfl) :
    PySem.W.WalkO q loose XP YP l.row.toRowW d [] (fun f vs => PySem.call f vs) := by
  refine Att.attach_call hn hdf fun w s0 s1 mg mb fa o pm cd doc a vs ns G Y ho hd hcd hmg hobj hints hlen hg => ?_
  have KX := hY w _ Y
  obtain ⟨fd, hb, hF⟩ := F w mg fa _ KX G.T.g hmg
  exact law_callG KX G.T.g G.T.b G.T.builtins G.T.nolimit hg hobj hints hlen hr hF hb nt
end DL
set_option Elab.async false
set_option maxRecDepth 100000
set_option autoImplicit false
set_option linter.unusedVariables false
set_option maxHeartbeats 4000000
namespace DL
open PySem L2 PySem.Spec PyProof.Rows
variable [TAB : TabList]
variable [EFF : Eff]
set_option linter.unusedSectionVars false
def e2 (h : D → D → M D) (f g : Env → M D) : Env → M D := fun ρ => M.bind (f ρ) fun x => M.bind (g ρ) fun y => h x y
def t2 (h : D → D → M D) (f g : Env → M D) : Env → M Bool := fun ρ => M.bind (f ρ) fun x => M.bind (g ρ) fun y => M.bind (h x y) asB
def e1 (h : D → M D) (f : Env → M D) : Env → M D := fun ρ => M.bind (f ρ) h
def cst (d : D) : Env → M D := fun _ => M.ret d
def aN : Env → M (List D) := fun _ => M.ret []
def aC (f : Env → M D) (g : Env → M (List D)) : Env → M (List D) := fun ρ => M.bind (f ρ) fun x => M.bind (g ρ) fun xs => M.ret (x :: xs)
def eCall (h : List D → M D) (f : Env → M (List D)) : Env → M D := fun ρ => M.bind (f ρ) h
def nCall (h : List D → M (List D)) (f : Env → M (List D)) : Env → M (List D) := fun ρ => M.bind (f ρ) h
def eN (f : Env → M (List D)) : Env → M D := fun ρ => M.bind (f ρ) fun xs => M.ret (.lst xs)
def nLst (g : Env → M (List D)) : Env → M (List D) := fun ρ => M.bind (g ρ) fun xs => M.guard (szL xs) (M.ret xs)
def eTup (g : Env → M (List D)) : Env → M D := fun ρ => M.bind (g ρ) fun xs => M.guard (szL xs) (M.ret (.tup xs))
def tVal (f : Env → M D) : Env → M Bool := fun ρ => M.bind (f ρ) truD
def tNotM (f : Env → M Bool) : Env → M Bool := fun ρ => M.bind (f ρ) fun k => M.ret (!k)
def tAndM (f g : Env → M Bool) : Env → M Bool := fun ρ => M.bind (f ρ) fun k => if k = true then g ρ else M.ret false
def tOrM (f g : Env → M Bool) : Env → M Bool := fun ρ => M.bind (f ρ) fun k => if k = true then M.ret true else g ρ
def eAnd (f g : Env → M D) : Env → M D := fun ρ => M.bind (f ρ) fun x => M.bind (asB x) fun k => if k = true then g ρ else M.ret (.bl false)
def eNot (f : Env → M D) : Env → M D := fun ρ => M.bind (f ρ) fun x => M.bind (asB x) fun k => M.ret (.bl (!k))
def eIf (t : Env → M Bool) (f g : Env → M D) : Env → M D := fun ρ => M.bind (t ρ) fun k => if k = true then f ρ else g ρ
def iAny (f : Env → M D) : Env → M (List D) := fun ρ => M.bind (f ρ) itemsD
def iRg1 (f : Env → M (List D)) : Env → M (List D) := fun ρ => M.bind (f ρ) rng1
def iRg2 (f : Env → M (List D)) : Env → M (List D) := fun ρ => M.bind (f ρ) rng2
def nLc (vs : List Nat) (gi : Env → M (List D)) (bs : D → Option (List (Nat × D))) (c : Env → M Bool) (e : Env → M D) : Env → M (List D) := fun ρ => M.bind (gi ρ) fun xs => M.bind (compM bs c e (wipeD ρ vs) xs) fun ys => M.guard (szL ys) (M.ret ys)
def cT : Env → M Bool := fun _ => M.ret true
def oN : Env → M (Option Int) := fun _ => M.ret none
def oS (f : Env → M D) : Env → M (Option Int) := fun ρ => M.bind (f ρ) asI
def eSl (f : Env → M D) (fl fh : Env → M (Option Int)) : Env → M D := fun ρ => M.bind (f ρ) fun x => M.bind (fl ρ) fun l => M.bind (fh ρ) fun h => slD l h x
def sNil : Env2 → M Out := fun ρ => M.ret (.nx ρ)
structure FnAt (K : PySem.W.Frag) (mg : Str → Option Value) (x : Str) (st : Stmt) (ps : List Str) (f : Addr) (fd : FuncData) : Prop where
  fn : Fun K x x st f fd
  bd : Binds K fd ps []
  gl : mg x = some (.ref f)
section
variable {X : Cx} {pos : Pos}
theorem s_setLc (i : Nat) (ms : List Nat) {y : Str} {py : Pos} {elt tg iter : Expr} {ifs : List Expr} {scope : Scope} {own : List (Str × Nat)} {cpos : Pos} {gi : Env → M (List D)} {g : TG} {bs : D → Option (List (Nat × D))} {is : List Nat} {c : Env → M Bool} {e : Env → M D}
    (hc : X.calm = true) (hN : X.N.Nodup) (hy : X.N[i]? = some y) (hyl : X.env.scope.names.lookup y = some .local)
    (hsw : swapsWith (.ListComp elt [⟨tg, iter, ifs, 0⟩] scope cpos) (some (.Name y py)) pos.line X.env = pure true) (hi : DI X tg iter gi) (ok : BlkOk X.N X.env.scope scope own) (ht : TgOk X.K g bs is) (his : is.all (fun i => (own.map (·.2)).contains i) = true)
    (hg : ∀ (s : Shared) (H : Hp) (C : Addr) (cl : List (Str × Addr)) (fp : List Addr), PG (X.blk s H scope (compEnvC scope cl C X.env) fp) tg g) (htt : ∀ (s : Shared) (H : Hp) (C : Addr) (cl : List (Str × Addr)) (fp : List Addr), DTs (X.blk s H scope (compEnvC scope cl C X.env) fp) ifs c)
    (he : ∀ (s : Shared) (H : Hp) (C : Addr) (cl : List (Str × Addr)) (fp : List Addr), DE (X.blk s H scope (compEnvC scope cl C X.env) fp) elt e) (hs : ∀ x, foldedSetIterable iter X.env x = pure x := by intro _; rfl) :
    DS X (.Assign [.Name y py] (.ListComp elt [⟨tg, iter, ifs, 0⟩] scope cpos) pos) (setNM i ms (nLc (own.map (·.2)) gi bs c e)) := by
  refine PSimp (ps_setLc (te := tF X.K e) (tt := tFT X.K c) hc hN hy hyl hsw hi ok hg htt he hs) ?_
  rintro D σ H ⟨E, ρ, G, b, o, b', I, e, q⟩
  obtain ⟨xs, b1, e1, e2⟩ := M.bind_some e
  cases e2
  refine lc_f ht (fun i hi => by have := List.all_eq_true.mp his i hi; simpa using this) σ H _ ⟨_, _, b, xs, b', I.rs ms, I.gp2 ms, I.gpb ms, e1, fun p vs G1 H1 n1 hp gn hh r => ?_⟩
  obtain ⟨G2, I2⟩ := I.newOwn n1 i hp gn hh r
  exact q _ G2 H1 I2
def parM (i j : Nat) (ms : List Nat) (f : Env → M (List D)) (ρ : Env2) : M Out := M.bind (f (view ms ρ)) fun ds => match ds with
  | [d, e] => M.ret (.nx (((keepIf (d.flat && e.flat) ms ρ).set i (some (.val d))).set j (some (.val e))))
  | _ => M.fail
theorem s_par (i j : Nat) (ms : List Nat) {x y : Str} {a b : Expr} {f : Env → M (List D)} {px py pt : Pos} {kt k2 pt2} (hc : X.calm = true) (hN : X.N.Nodup) (hi : X.N[i]? = some x) (hj : X.N[j]? = some y) (hij : i ≠ j)
    (hx : X.env.scope.names.lookup x = some .local) (hy : X.env.scope.names.lookup y = some .local) (ha : DA X [a, b] f)
    (hw : swappedStores [.Tuple [.Name x px, .Name y py] kt pt] (.Tuple [a, b] k2 pt2) X.env = pure (some [x, y]) := by rfl)
    (hs : swapsWithSole [.Tuple [.Name x px, .Name y py] kt pt] (.Tuple [a, b] k2 pt2) pos.line X.env = pure false := by rfl) :
    DS X (.Assign [.Tuple [.Name x px, .Name y py] kt pt] (.Tuple [a, b] k2 pt2) pos) (parM i j ms f) := by
  refine PSimp (ps_par hc hN hi hj hij hx hy ha hw hs) ?_
  rintro D σ H ⟨E, ρ, G, b, o, b', I, e, q⟩
  obtain ⟨ds, b1, e1, e2⟩ := M.bind_some e
  refine ⟨_, _, b, ds, b1, I.rs ms, I.gp2 ms, I.gpb ms, e1, fun vs G1 H1 n1 r => ?_⟩
  clear e
  match ds, e2, r with
  | [d, d2], e2, .cons r1 (.cons r2 .nil) =>
    cases e2
    refine ⟨_, _, rfl, ?_⟩
    unfold keepIf at q
    cases hf : (d.flat && d2.flat) with
    | true =>
      rw [hf] at q
      rw [Bool.and_eq_true] at hf
      exact q _ G H1 (((I.flat n1).set (r1.flat_any hf.1)).set (r2.flat_any hf.2))
    | false =>
      rw [hf] at q
      exact q _ G1 H1 (((I.frz n1).set r1).set r2)
def augD (f : D → D → M D) (i : Nat) (ms : List Nat) (g : Env → M D) (ρ : Env2) : M Out := match ρ[i]? with
  | some (some (.val x)) => M.bind (g (view ms ρ)) fun y => M.bind (f x y) fun z => M.guard (y.flat && z.flat) (M.ret (.nx (ρ.set i (some (.val z)))))
  | _ => M.fail
theorem ip_addS : PIp X .Add (fun x y H Q => rI0 (fun i j => .int (i + j)) x y H Q ∨ (∃ i j, x = .str i ∧ y = .str j ∧ i.length + j.length ≤ sizeLine ∧ Q (.str (i ++ j)) H)) := by
  intro pins s σ H x y v u Q I rx ry h
  exact (iop_add.or iop_add_str) pins s σ H x y v u Q I rx ry h
def addF : D → D → M D
  | .int i, .int j => M.ret (.int (i + j))
  | .str x, .str y => M.guard (szS (x.length + y.length)) (M.ret (.str (x ++ y)))
  | _, _ => M.fail
theorem s_augAdd (i : Nat) (ms : List Nat) {x : Str} {e : Expr} {g : Env → M D} {pos' : Pos} (hN : X.N.Nodup) (hi : X.N[i]? = some x) (hx : Loc X.env.scope x) (he : DE X e g) (hf : X.fn x = true ∨ X.env.scope.names.lookup x = some .local := by first | exact .inl rfl | exact .inr rfl | assumption) :
    DS X (.AugAssign (.Name x pos') .Add e pos) (augD addF i ms g) := by
  refine PSimp (ps_aug hN hi hx he ip_addS hf) ?_
  rintro D σ H ⟨E, ρ, G, b, o, b', I, e, q⟩
  unfold augD at e
  cases ej : ρ[i]? with
  | none => rw [ej] at e; cases e
  | some s =>
    cases s with
    | none => rw [ej] at e; cases e
    | some s =>
      cases s with
      | own xs => rw [ej] at e; cases e
      | tr o => rw [ej] at e; cases e
      | val x =>
        rw [ej] at e
        obtain ⟨y, b1, e1, e⟩ := M.bind_some e
        obtain ⟨z, b2, e2, e⟩ := M.bind_some e
        obtain ⟨c, e⟩ := M.guard_some e
        cases e
        rw [Bool.and_eq_true] at c
        obtain ⟨v, h1, h2⟩ := I.val i x ej
        refine ⟨v, h1, _, _, b, y, b1, I.rs ms, I.gp2 ms, I.gpb ms, e1, fun v2 G1 H1 n1 r => ?_⟩
        have I1 := I.flat n1
        cases h2 with
        | int k =>
          cases r with
          | int m => cases e2; exact .inl ⟨k, m, rfl, rfl, q _ G H1 (I1.set (.int _))⟩
          | _ => cases e2
        | str k =>
          cases r with
          | str m =>
            obtain ⟨c2, e2⟩ := M.guard_some e2
            cases e2
            refine .inr ⟨_, _, rfl, rfl, by rw [szStr, szStr]; exact of_decide_eq_true c2, ?_⟩
            have e3 : ((⟨k.toArray⟩ : Str) ++ (⟨m.toArray⟩ : Str)) = ⟨(k ++ m).toArray⟩ := by
              show (⟨k.toArray ++ m.toArray⟩ : Str) = _
              simp
            rw [e3]
            exact q _ G H1 (I1.set (.str _))
          | _ => cases e2
        | _ => cases r <;> cases e2
def unpM (bs : D → Option (List (Nat × D))) (ms : List Nat) (f : Env → M D) (ρ : Env2) : M Out := M.bind (f (view ms ρ)) fun d => match bs d with
  | some l => M.ret (.nx (setAll2 (keepIf d.flat ms ρ) l))
  | none => M.fail
theorem s_unp {bs : D → Option (List (Nat × D))} (ms : List Nat) {tg e : Expr} {f : Env → M D} {g : TG} {is : List Nat} (he : DE X e f) (hg : PG X tg g) (ht : TgOk X.K g bs is) (hs : swapsWithSole [tg] e pos.line X.env = pure false := by rfl) (hw : swappedStores [tg] e X.env = pure none := by rfl) (h1 : (assignEach [tg] X.env).map (·.2) = [assign tg X.env] := by rfl) :
    DS X (.Assign [tg] e pos) (unpM bs ms f) := by
  refine PSimp (ps_asg he hg hs hw h1) ?_
  rintro D σ H ⟨E, ρ, G, b, o, b', I, e, q⟩
  obtain ⟨d, b1, e1, e2⟩ := M.bind_some e
  cases eb : bs d with
  | none => rw [eb] at e2; cases e2
  | some l =>
    rw [eb] at e2
    cases e2
    refine ⟨_, _, b, d, b', I.rs ms, I.gp2 ms, I.gpb ms, e1, fun v G1 H1 n1 r => ?_⟩
    obtain ⟨G2, I2, r2⟩ := I.after n1 r
    obtain ⟨lv, pl, il, gq⟩ := ht G2 v d l r2 eb
    exact gq H1 σ _ I2.fz (q _ G2 H1 (SI.setAll pl I2))
end
end DL
set_option Elab.async false
set_option maxRecDepth 100000
set_option autoImplicit false
set_option linter.unusedVariables false
set_option maxHeartbeats 4000000
namespace DL
open PySem L2
theorem view_eq (ms : List Nat) (ρ : Env2) : view ms ρ = viewAt ms 0 ρ := rfl
theorem viewAt_nil (ms : List Nat) (i : Nat) : viewAt ms i [] = [] := rfl
theorem viewAt_cons (ms : List Nat) (i : Nat) (s : Option Slot) (r : Env2) : viewAt ms i (s :: r) = (if ms.contains i then s.map Slot.see else none) :: viewAt ms (i + 1) r := rfl
theorem frz_eq (ms : List Nat) (ρ : Env2) : frz ms ρ = frzAt ms 0 ρ := rfl
theorem frzAt_nil (ms : List Nat) (i : Nat) : frzAt ms i [] = [] := rfl
theorem frzAt_cons (ms : List Nat) (i : Nat) (s : Option Slot) (r : Env2) : frzAt ms i (s :: r) = (if ms.contains i then s.map (fun s => Slot.val s.see) else s) :: frzAt ms (i + 1) r := rfl
theorem see_val (d : D) : (Slot.val d).see = d := rfl
theorem see_own (xs : List D) : (Slot.own xs).see = .lst xs := rfl
theorem keepIf_t (ms : List Nat) (ρ : Env2) : keepIf true ms ρ = ρ := rfl
theorem keepIf_f (ms : List Nat) (ρ : Env2) : keepIf false ms ρ = frz ms ρ := rfl
theorem flat_int (i : Int) : (D.int i).flat = true := rfl
theorem flat_str (i : List Nat) : (D.str i).flat = true := rfl
theorem flat_bl (i : Bool) : (D.bl i).flat = true := rfl
theorem flat_non : D.non.flat = true := rfl
theorem flat_bag (p : Addr) : (D.bag p).flat = true := rfl
theorem flat_lst (i : List D) : (D.lst i).flat = false := rfl
theorem flat_tup (i : List D) : (D.tup i).flat = false := rfl
theorem flat_obj (C : Nat) (i : List D) : (D.obj C i).flat = false := rfl
theorem rd_0 (d : D) (r : Env) : rdEnv 0 (some d :: r) = M.ret d := rfl
theorem rd_1 (o : Option D) (r : Env) : rdEnv 1 (o :: r) = rdEnv 0 r := rfl
theorem rd_2 (o : Option D) (r : Env) : rdEnv 2 (o :: r) = rdEnv 1 r := rfl
theorem rd_3 (o : Option D) (r : Env) : rdEnv 3 (o :: r) = rdEnv 2 r := rfl
theorem rd_4 (o : Option D) (r : Env) : rdEnv 4 (o :: r) = rdEnv 3 r := rfl
theorem rd_5 (o : Option D) (r : Env) : rdEnv 5 (o :: r) = rdEnv 4 r := rfl
theorem rd_6 (o : Option D) (r : Env) : rdEnv 6 (o :: r) = rdEnv 5 r := rfl
theorem rd_7 (o : Option D) (r : Env) : rdEnv 7 (o :: r) = rdEnv 6 r := rfl
theorem rd_8 (o : Option D) (r : Env) : rdEnv 8 (o :: r) = rdEnv 7 r := rfl
theorem rd_9 (o : Option D) (r : Env) : rdEnv 9 (o :: r) = rdEnv 8 r := rfl
theorem rd_10 (o : Option D) (r : Env) : rdEnv 10 (o :: r) = rdEnv 9 r := rfl
theorem rd_11 (o : Option D) (r : Env) : rdEnv 11 (o :: r) = rdEnv 10 r := rfl
theorem rd_12 (o : Option D) (r : Env) : rdEnv 12 (o :: r) = rdEnv 11 r := rfl
theorem rd_13 (o : Option D) (r : Env) : rdEnv 13 (o :: r) = rdEnv 12 r := rfl
theorem rd_14 (o : Option D) (r : Env) : rdEnv 14 (o :: r) = rdEnv 13 r := rfl
theorem lenF_str {t : List Nat} (h : t.length ≤ 16777216) : lenF [.str t] = M.ret (.int t.length) := M.guard_of (decide_eq_true h)
theorem lenF_lst (t : List D) : lenF [.lst t] = M.ret (.int t.length) := rfl
theorem lenF_tup (t : List D) : lenF [.tup t] = M.ret (.int t.length) := rfl
theorem intF_int (i : Int) : intF [.int i] = M.ret (.int i) := rfl
theorem intF_bl (i : Bool) : intF [.bl i] = M.ret (.int (if i then 1 else 0)) := rfl
theorem absF_int (i : Int) : absF [.int i] = M.ret (.int (if i < 0 then -i else i)) := rfl
theorem modD_int {i j : Int} (h : 0 < j) : modD (.int i) (.int j) = M.ret (.int (i % j)) := by
  show M.of (Option.map D.int (if 0 < j then some (i % j) else none)) = _
  rw [if_pos h]; rfl
theorem divD_int {i j : Int} (h : 0 < j) (h2 : j < 1000000000000000000000000000000) : divD (.int i) (.int j) = M.ret (.int (i / j)) := by
  show M.of (Option.map D.int (if 0 < j ∧ j < 1000000000000000000000000000000 then some (i / j) else none)) = _
  rw [if_pos ⟨h, h2⟩]; rfl
theorem subD_int (i j : Int) : subD (.int i) (.int j) = M.ret (.int (i - j)) := rfl
theorem addD_int (i j : Int) : addD (.int i) (.int j) = M.ret (.int (i + j)) := rfl
theorem addD_str {x y : List Nat} (h : x.length + y.length ≤ 16777216) : addD (.str x) (.str y) = M.ret (.str (x ++ y)) := M.guard_of (decide_eq_true h)
theorem addD_lst {x y : List D} (h : x.length + y.length ≤ 16777216) : addD (.lst x) (.lst y) = M.ret (.lst (x ++ y)) := M.guard_of (decide_eq_true h)
theorem mulD_int {i j : Int} (h : okM i j = true) : mulD (.int i) (.int j) = M.ret (.int (i * j)) := M.guard_of h
theorem okM_l {i j : Int} (h1 : -18446744073709551616 < i) (h2 : i < 18446744073709551616) : okM i j = true := by
  unfold okM
  rw [Bool.or_eq_true, Bool.and_eq_true]
  exact .inl ⟨decide_eq_true h1, decide_eq_true h2⟩
theorem okM_r {i j : Int} (h1 : -18446744073709551616 < j) (h2 : j < 18446744073709551616) : okM i j = true := by
  unfold okM
  rw [Bool.or_eq_true, Bool.and_eq_true, Bool.and_eq_true]
  exact .inr ⟨decide_eq_true h1, decide_eq_true h2⟩
theorem negD_int (i : Int) : negD (.int i) = M.ret (.int (-i)) := rfl
theorem asI_int (i : Int) : asI (.int i) = M.ret (some i) := rfl
theorem asB_bl (b : Bool) : asB (.bl b) = M.ret b := rfl
theorem truD_bl (b : Bool) : truD (.bl b) = M.ret b := rfl
theorem slD_str {x : List Nat} {l h : Option Int} (hz : x.length ≤ 16777216) : slD l h (.str x) = M.ret (.str (cutL x l h)) := M.guard_of (decide_eq_true hz)
theorem slD_lst (x : List D) (l h : Option Int) : slD l h (.lst x) = M.ret (.lst (cutL x l h)) := rfl
theorem slD_scr (x : List Int) (l h : Option Int) : slD l h (.scr x) = M.ret (.lst (cutL (x.map D.int) l h)) := rfl
theorem revD_str {x : List Nat} (hz : x.length ≤ 16777216) : revD (.str x) = M.ret (.str x.reverse) := M.guard_of (decide_eq_true hz)
theorem revD_lst (x : List D) : revD (.lst x) = M.ret (.lst x.reverse) := rfl
theorem ltD_int (i j : Int) : ltD (.int i) (.int j) = M.ret (.bl (decide (i < j))) := rfl
theorem leD_int (i j : Int) : leD (.int i) (.int j) = M.ret (.bl (decide (i ≤ j))) := rfl
theorem gtD_int (i j : Int) : gtD (.int i) (.int j) = M.ret (.bl (decide (j < i))) := rfl
theorem geD_int (i j : Int) : geD (.int i) (.int j) = M.ret (.bl (decide (j ≤ i))) := rfl
theorem eqD_int (i j : Int) : eqD false (.int i) (.int j) = M.ret (.bl (decide (i = j))) := rfl
theorem eqD_str (i j : List Nat) : eqD false (.str i) (.str j) = M.ret (.bl (decide (i = j))) := rfl
theorem neD_int (i j : Int) : eqD true (.int i) (.int j) = M.ret (.bl (!decide (i = j))) := rfl
theorem neD_str (i j : List Nat) : eqD true (.str i) (.str j) = M.ret (.bl (!decide (i = j))) := rfl
theorem inD_str (c : Nat) (z : List Nat) : inD false (.str [c]) (.str z) = M.ret (.bl (decide (c ∈ z))) := rfl
theorem notInD_str (c : Nat) (z : List Nat) : inD true (.str [c]) (.str z) = M.ret (.bl (!decide (c ∈ z))) := rfl
theorem atI_lt {α : Type} {xs : List α} {i : Int} (h0 : 0 ≤ i) (h1 : i < xs.length) : atI xs i = xs[i.toNat]? := by
  have e : ((i.toNat : Nat) : Int) = i := by omega
  have hl : i.toNat < xs.length := by omega
  have h := atI_nat (xs := xs) (j := i.toNat) (v := xs[i.toNat]) (by simp [hl])
  rw [e] at h
  rw [h, List.getElem?_eq_getElem hl]
theorem ixD_str {x : List Nat} {i : Int} (hz : x.length ≤ 16777216) (h0 : 0 ≤ i) (h1 : i < x.length) : ixD (.str x) (.int i) = M.ret (.str [x.getD i.toNat 0]) := by
  have hl : i.toNat < x.length := by omega
  show M.guard (szS x.length) (M.of ((atI x i).map fun c => D.str [c])) = _
  rw [M.guard_of (show szS x.length = true from decide_eq_true hz), atI_lt h0 h1, List.getElem?_eq_getElem hl]
  simp [List.getD, List.getElem?_eq_getElem hl]
theorem ixD_lst {x : List D} {i : Int} {d : D} (h : atI x i = some d) : ixD (.lst x) (.int i) = M.ret d := by
  show M.of (atI x i) = _
  rw [h]; rfl
theorem rng1_int {j : Int} (h : -4611686018427387904 ≤ j) (h2 : j < 4611686018427387904) : rng1 [.int j] = M.ret ((List.range j.toNat).map fun k => .int (0 + (k : Nat))) := by
  refine M.guard_of ?_
  unfold okR
  rw [Bool.and_eq_true]
  exact ⟨decide_eq_true h, decide_eq_true h2⟩
theorem rng2_int {i j : Int} (h : -4611686018427387904 ≤ i) (h2 : i < 4611686018427387904) (h3 : -4611686018427387904 ≤ j) (h4 : j < 4611686018427387904) : rng2 [.int i, .int j] = M.ret ((List.range (j - i).toNat).map fun k => .int (i + (k : Nat))) := by
  refine M.guard_of ?_
  unfold okR
  rw [Bool.and_eq_true, Bool.and_eq_true, Bool.and_eq_true]
  exact ⟨⟨decide_eq_true h, decide_eq_true h2⟩, decide_eq_true h3, decide_eq_true h4⟩
theorem itemsD_lst (xs : List D) : itemsD (.lst xs) = M.ret xs := rfl
theorem itemsD_tup (xs : List D) : itemsD (.tup xs) = M.ret xs := rfl
theorem itemsD_str (x : List Nat) : itemsD (.str x) = M.ret (x.map fun c => .str [c]) := rfl
theorem szL_ok {xs : List D} (h : xs.length ≤ 16777216) {α : Type} {m : M α} : M.guard (szL xs) m = m := M.guard_of (decide_eq_true h)
theorem asTs_map (xs : List (List Nat)) : asTs (xs.map D.str) = some xs := by
  induction xs with
  | nil => rfl
  | cons x xs ih => show (match asTs (xs.map D.str) with | some l => some (x :: l) | none => none) = _; rw [ih]
theorem compM_mapI {α : Type} {bs : D → Option (List (Nat × D))} {c : Env → M Bool} {e : Env → M D} {ρ : Env} {inj : α → D} {l : α → List (Nat × D)} {y : α → D} : ∀ {xs : List α}, (∀ a ∈ xs, bs (inj a) = some (l a) ∧ c (setAllD ρ (l a)) = M.ret true ∧ e (setAllD ρ (l a)) = M.ret (y a)) → compM bs c e ρ (xs.map inj) = M.ret (xs.map y)
  | [], _ => rfl
  | x :: xs, h => by
    obtain ⟨h1, h2, h3⟩ := h x (by simp)
    rw [List.map_cons]
    unfold compM
    rw [h1]
    show M.bind _ _ = _
    rw [h2, M.ret_bind, if_pos rfl, h3, M.ret_bind, compM_mapI (xs := xs) fun x hx => h x (by simp [hx])]
    rfl
theorem compM_filterI {α : Type} {bs : D → Option (List (Nat × D))} {c : Env → M Bool} {e : Env → M D} {ρ : Env} {inj : α → D} {l : α → List (Nat × D)} {k : α → Bool} {y : α → D} : ∀ {xs : List α}, (∀ a ∈ xs, bs (inj a) = some (l a) ∧ c (setAllD ρ (l a)) = M.ret (k a) ∧ e (setAllD ρ (l a)) = M.ret (y a)) → compM bs c e ρ (xs.map inj) = M.ret ((xs.filter k).map y)
  | [], _ => rfl
  | x :: xs, h => by
    obtain ⟨h1, h2, h3⟩ := h x (by simp)
    rw [List.map_cons]
    unfold compM
    rw [h1]
    show M.bind _ _ = _
    have ih := compM_filterI (xs := xs) (fun x hx => h x (by simp [hx]))
    rw [h2, M.ret_bind]
    cases hk : k x with
    | true => rw [if_pos rfl, h3, M.ret_bind, ih, List.filter_cons_of_pos hk]; rfl
    | false => rw [if_neg Bool.false_ne_true, ih, List.filter_cons_of_neg (by simp [hk])]
theorem cut_all {α : Type} (xs : List α) {k : Int} (h : (xs.length : Int) ≤ k) : cutL xs none (some k) = xs := by
  unfold cutL
  have e : HT.sIx xs.length xs.length (some k) = xs.length := by
    show (if k < 0 then _ else min k.toNat xs.length) = _
    rw [if_neg (by omega)]; omega
  rw [e]
  simp [HT.sIx]
theorem cut_to {α : Type} (xs : List α) {k : Int} (h : 0 ≤ k) : cutL xs none (some k) = xs.take k.toNat := by
  unfold cutL
  have e : HT.sIx xs.length xs.length (some k) = min k.toNat xs.length := by
    show (if k < 0 then _ else min k.toNat xs.length) = _
    rw [if_neg (by omega)]
  rw [e]
  have e0 : HT.sIx xs.length 0 none = 0 := rfl
  rw [e0, List.drop_zero, Nat.sub_zero, ← List.take_take, List.take_length]
theorem cut_from {α : Type} (xs : List α) {k : Int} (h : 0 ≤ k) : cutL xs (some k) none = xs.drop k.toNat := by
  unfold cutL
  have e : HT.sIx xs.length 0 (some k) = min k.toNat xs.length := by
    show (if k < 0 then _ else min k.toNat xs.length) = _
    rw [if_neg (by omega)]
  have e1 : HT.sIx xs.length xs.length none = xs.length := rfl
  rw [e, e1, List.take_of_length_le (by simp)]
  by_cases hk : k.toNat ≤ xs.length
  · rw [Nat.min_eq_left hk]
  · rw [Nat.min_eq_right (by omega), List.drop_of_length_le (Nat.le_refl _), List.drop_of_length_le (by omega)]
theorem compM_tot {p : Addr} {bs : D → Option (List (Nat × D))} {c : Env → M Bool} {e : Env → M D} {ρ : Env} {P : D → Prop} : ∀ {xs : List D}, (∀ x ∈ xs, ∃ l, bs x = some l ∧ c (setAllD ρ l) = M.ret true ∧ Tot p (e (setAllD ρ l)) P) → Tot p (compM bs c e ρ xs) fun ys => ys.length = xs.length ∧ ∀ y ∈ ys, P y
  | [], _ => Tot.ret ⟨rfl, fun _ h => nomatch h⟩
  | x :: xs, h => by
    obtain ⟨l, h1, h2, h3⟩ := h x (by simp)
    unfold compM
    rw [h1]
    show Tot p (M.bind _ _) _
    rw [h2, M.ret_bind, if_pos rfl]
    refine h3.bind fun y hy => (compM_tot (xs := xs) fun x hx => h x (by simp [hx])).bind fun ys hys => Tot.ret ⟨by simp [hys.1], fun z hz => ?_⟩
    rcases List.mem_cons.mp hz with rfl | hz
    · exact hy
    · exact hys.2 z hz
end DL
set_option Elab.async false
set_option maxRecDepth 100000
set_option autoImplicit false
set_option linter.unusedVariables false
set_option maxHeartbeats 4000000
namespace DL
open PySem L2 PySem.Spec PyProof.Rows
variable [TAB : TabList]
variable [EFF : Eff]
set_option linter.unusedSectionVars false
structure ClsAt (K : PySem.W.Frag) (mg : Str → Option Value) (c : Nat) (C : Addr) : Prop where
  ns : PySem.W.nsIn K mainGlobals (clsName c) = some (some (.ref C))
  gl : mg (clsName c) = some (.ref C)
  cl : SlX.SCls K C
def isC (c : Nat) : D → Bool
  | .obj k _ => k == c
  | _ => false
theorem isC_rp {K : PySem.W.Frag} {mg : Str → Option Value} {G : Hp} {v : V} {d : D} {c : Nat} {C : Addr} (T : ClsAt K mg c C) (h : isC c d = true) (r : Rp K G v d) : ∃ a dx vs fs, d = .obj c fs ∧ v = .ref a ∧ SlX.Slt G a C dx (vs.map some) ∧ RpL K G vs fs := by
  cases r with
  | @obj c' a C' dx vs ds h0 h1 h2 h3 =>
    have e : c' = c := by simpa [isC] using h
    subst e
    rw [T.ns] at h0
    cases h0
    exact ⟨a, dx, vs, ds, rfl, rfl, .inr ⟨h1, h2⟩, h3⟩
  | _ => cases h
theorem slt_mono {G H : Hp} {a C dx : Addr} {vs : List (Option V)} (s : SameF G H) (h : SlX.Slt G a C dx vs) : SlX.Slt H a C dx vs := by
  rcases h with ⟨h1, h2⟩ | ⟨h1, h2⟩
  · exact .inl ⟨s _ _ h1, h2⟩
  · exact .inr ⟨s _ _ h1, s _ _ h2⟩
def slotD (c i : Nat) : D → M D
  | .obj k fs => M.guard (k == c) (M.of fs[i]?)
  | _ => M.fail
def propD (c : Nat) (F : List D → M D) (x : D) : M D := M.guard (isC c x) (F [x])
def eMeth (c : Nat) (F : List D → M D) (f : Env → M D) (fa : Env → M (List D)) : Env → M D := fun ρ => M.bind (f ρ) fun x => M.guard (isC c x) (M.bind (fa ρ) fun ds => F (x :: ds))
section
variable {X : Cx} {c : Nat} {C : Addr} {e o : Expr} {es : List Expr} {f : Env → M D} {fa : Env → M (List D)} {pos apos : Pos} {fld m : Str} {k : Nat} {g : Addr} {fd : FuncData} {ps : List Str} {n : Nat} {Fn : List D → M D} {Fl : List D → M (List D)}
theorem d_slot {p : Addr} {i : Nat} (T : ClsAt X.K X.mg c C) (t : SlX.Slot1 X.K C fld p i) (he : DE X e f) (hb : attributeBase e fld X.env (eval e X.env) = eval e X.env := by rfl) : DE X (.Attribute e fld pos) (e1 (slotD c i) f) := by
  refine PEimp (SlX.pe_sl he hb) ?_
  rintro σ H Q ⟨ρ, G, b, d, b', rs, fz, ob, e, q⟩
  obtain ⟨x, b1, e1, e2⟩ := M.bind_some e
  refine ⟨ρ, G, b, x, b1, rs, fz, ob, e1, fun v G1 H1 n1 r => ?_⟩
  have hc : isC c x = true := by
    cases x <;> first | (cases e2; done) | skip
    rename_i k fs
    obtain ⟨h, _⟩ := M.guard_some e2
    exact h
  obtain ⟨a, dx, vs, fs, rfl, rfl, hs, rl⟩ := isC_rp T hc r
  obtain ⟨_, e3⟩ := M.guard_some e2
  cases ef : fs[i]? with
  | none => rw [ef] at e3; cases e3
  | some y =>
    rw [ef] at e3
    cases e3
    obtain ⟨u, h1, h2⟩ := rl.get ef
    exact ⟨a, C, dx, p, _, i, u, rfl, slt_mono n1.fz hs, T.cl, t, by rw [List.getElem?_map, h1]; rfl, q u G1 H1 n1 h2⟩
structure PropAt (K : PySem.W.Frag) (C : Addr) (fld : Str) (p g : Addr) : Prop where
  at_ : PySem.W.findIn K (.ref C) fld = some (some (.ref p))
  get : PySem.W.specialIn K (.ref p) "__get__" = some (some (.builtin "property.__get__"))
  tk : PySem.W.takesIn K (.ref p) = some true
  rc : ∃ rest, PySem.W.recIn K p "property" = some (.ref g :: rest)
theorem raw0 {P : Program} {w : World} {K : PySem.W.Frag} {mg : Str → Option Value} {base : Heap} {sp : Sp} (F : FnOk P w K mg base CX0 k g fd ps sp) (hb : Binds K fd ps []) : FnR P w K mg base CX0 k g (fun vs H Q E => sp (vs ++ []) H Q E) := F.raw hb .nil
theorem d_prop {p : Addr} (T : ClsAt X.K X.mg c C) (t : PropAt X.K C fld p g) (F : FnOk X.prog X.w X.K X.mg X.base CX0 k g fd ps (spD X.K 1 Fn)) (hb : Binds X.K fd ps []) (hr : Room (k + 1) X.A) (he : DE X e f) (hab : attributeBase e fld X.env (eval e X.env) = eval e X.env := by rfl) :
    DE X (.Attribute e fld pos) (e1 (propD c Fn) f) := by
  refine PEimp (SlX.pe_propSl (E := E0) he T.cl t.at_ t.get t.tk t.rc (raw0 F hb) hr (fun _ _ _ _ h => h) hab) ?_
  rintro σ H Q ⟨ρ, G, b, d, b', rs, fz, ob, e, q⟩
  obtain ⟨x, b1, e1, e2⟩ := M.bind_some e
  obtain ⟨hc, e3⟩ := M.guard_some e2
  refine ⟨ρ, G, b, x, b1, rs, fz, ob, e1, fun v G1 H1 n1 r => ?_⟩
  obtain ⟨a, dx, vs, fs, rfl, rfl, hs, rl⟩ := isC_rp T hc r
  exact ⟨a, dx, _, rfl, slt_mono n1.fz hs, G1, b1, [.obj c fs], d, b', .cons r .nil, rfl, n1.fz, n1.bag, e3, fun v G2 H2 n2 r2 => q v G2 H2 (n1.trans n2) r2⟩
theorem meth_f (T : ClsAt X.K X.mg c C) (hn : ArN fa n) : ∀ σ H Q, tF X.K (eMeth c Fn f fa) σ H Q → SlX.tMethSl C (fun vs H Q E => spD X.K (n + 1) Fn (vs ++ []) H Q E) E0 (tF X.K f) (tFA X.K fa) σ H Q := by
  rintro σ H Q ⟨ρ, G, b, d, b', rs, fz, ob, e, q⟩
  obtain ⟨x, b1, e1, e2⟩ := M.bind_some e
  obtain ⟨hc, e3⟩ := M.guard_some e2
  obtain ⟨ds, b2, e4, e5⟩ := M.bind_some e3
  refine ⟨ρ, G, b, x, b1, rs, fz, ob, e1, fun v G1 H1 n1 r => ?_⟩
  obtain ⟨a, dx, vs, fs, rfl, rfl, hs, rl⟩ := isC_rp T hc r
  refine ⟨a, dx, _, rfl, slt_mono n1.fz hs, ρ, G1, b1, ds, b2, rs.mono n1.gg, n1.fz, n1.bag, e4, fun ws G2 H2 n2 r2 => ?_⟩
  exact ⟨G2, b2, .obj c fs :: ds, d, b', by rw [List.append_nil]; exact .cons (r.mono n2.gg) r2, by simp [hn _ _ _ _ e4], n2.fz, n2.bag, e5, fun v G3 H3 n3 r3 => q v G3 H3 ((n1.trans n2).trans n3) r3⟩
theorem d_meth (T : ClsAt X.K X.mg c C) (hm : Meth X.K C m g) (F : FnOk X.prog X.w X.K X.mg X.base CX0 k g fd ps (spD X.K (n + 1) Fn)) (hb : Binds X.K fd ps []) (hr : Room k X.A) (he : DE X o f) (ha : DA X (e :: es) fa) (hn : ArN fa n)
    (hst : starEach (e :: es) X.env = (false, eval e X.env) :: starEach es X.env := by rfl) (hpl : (backTo pos (starEach es X.env)).any (·.1) = false := by rfl) {pl : Sem Bool}
    (ht : eval (.Call (.Attribute o m apos) (e :: es) [] pos) X.env = (do
      let ov ← eval o X.env
      standAt apos.atName
      let (f, first) ← holding [ov] (getMethod ov m pl)
      callWith pos f first (backTo pos (starEach (e :: es) X.env)) (backToKw pos (keywordEach [] X.env))) := by rfl) :
    DE X (.Call (.Attribute o m apos) (e :: es) [] pos) (eMeth c Fn f fa) :=
  PEimp (SlX.pe_methSl he T.cl hm (raw0 F hb) hr pass0 ha hst hpl ht) (meth_f T hn)
def propN (c : Nat) (F : List D → M (List D)) (x : D) : M (List D) := M.guard (isC c x) (F [x])
def n1M (h : D → M (List D)) (f : Env → M D) : Env → M (List D) := fun ρ => M.bind (f ρ) h
theorem s_fail {st : Stmt} : DS X st (fun _ => M.fail) := ⟨fun pins s σ H Dn I ⟨E, ρ, G, b, o, b', _, e, _⟩ => by cases e⟩
end
def spI (K : PySem.W.Frag) (n : Nat) (C : Addr) (F : List D → M (List D)) : Sp := fun vs H Q _ => ∃ x dx ws G b ds fs b', vs = .ref x :: ws ∧ H x = some (.ins C dx []) ∧ H dx = some (.own x) ∧ dx ≠ x ∧ G x = none ∧ G dx = none ∧ ¬ b.hit x ∧ ¬ b.hit dx ∧
  RpL K G ws ds ∧ ds.length = n ∧ SameF G H ∧ BagOk G H b ∧ F ds b = some (fs, b') ∧ ∀ us G' H', Nxt G H b G' H' b' → RpL K G' us fs → Q .non (SlX.slH H' x C dx (us.map some))
theorem slH_same {H : Hp} {x C dx : Addr} {vs : List (Option V)} (hx : H x = none) (hd : H dx = none) : Same H (SlX.slH H x C dx vs) := fun a o h => by
  rw [SlX.slH_ne (ne_of_none h hx) (ne_of_none h hd)]
  exact h
theorem Nxt.made {G H G' H' : Hp} {b b' : Bs} {x C dx : Addr} {vs : List (Option V)} (n : Nxt G H b G' H' b') (ob : BagOk G H b) (hx : H x = none) (hd : H dx = none) (gx : G' x = none) (gd : G' dx = none) (cx : ∀ c q, H' x ≠ some (LamX.CodeO c q)) (cd : ∀ c q, H' dx ≠ some (LamX.CodeO c q)) : Nxt G H b (SlX.slH G' x C dx vs) (SlX.slH H' x C dx vs) b' := by
  have nx : ¬ b'.hit x := by rw [← Bs.like_at n.like]; exact bag_ne ob hx
  have nd : ¬ b'.hit dx := by rw [← Bs.like_at n.like]; exact bag_ne ob hd
  have sg : Same G' (SlX.slH G' x C dx vs) := slH_same gx gd
  refine .mk' (fun a o h => sg a o (n.gg a o h)) (fun a o h => ?_) (fun a o h hb => ?_) (fun a o h hn => ?_) ?_ n.like
  · by_cases h1 : a = x
    · rw [h1] at h ⊢
      unfold SlX.slH at h ⊢
      rw [upd_same] at h ⊢
      exact frOk_of h
    · by_cases h2 : a = dx
      · unfold SlX.slH at h ⊢
        rw [upd_ne h1, h2, upd_same] at h
        rw [upd_ne h1, h2, upd_same]
        exact frOk_of h
      · rw [SlX.slH_ne h1 h2] at h ⊢
        exact n.fz a o h
  · rw [SlX.slH_ne (ne_of_none h hx) (ne_of_none h hd)]
    exact n.keep a o h hb
  · rw [SlX.slH_ne (ne_of_none h hx) (ne_of_none h hd)]
    exact n.new a o h hn
  · have ne : ∀ a, b'.hit a → a ≠ x ∧ a ≠ dx := fun a z => ⟨fun e => nx (by rw [← e]; exact z), fun e => nd (by rw [← e]; exact z)⟩
    refine ⟨n.bag.1.ext (fun a z => ?_) sg (fun a z => SlX.slH_ne (ne a (.inl z)).1 (ne a (.inl z)).2) (fun a k z => ?_) (fun a k z => ?_), fun p hp => ?_⟩
    · rw [SlX.slH_ne (ne a (.inl z)).1 (ne a (.inl z)).2]; exact n.bag.hitG (.inl z)
    · by_cases h1 : a = x
      · rw [h1] at z; unfold SlX.slH at z; rw [upd_same] at z; cases z
      · by_cases h2 : a = dx
        · unfold SlX.slH at z; rw [upd_ne h1, h2, upd_same] at z; cases z
        · rw [SlX.slH_ne h1 h2] at z; exact z
    · exact SlX.slH_ne (ne_of_none z gx) (ne_of_none z gd)
    · obtain ⟨k1, k2⟩ := n.bag.2 p hp
      obtain ⟨ne1, ne2⟩ := ne p.1 (.inr ⟨p.2, hp⟩)
      refine ⟨by rw [SlX.slH_ne ne1 ne2]; exact k1, ?_⟩
      by_cases e : x = dx
      · subst e
        unfold SlX.slH
        rw [upd_upd]
        exact TabS.mut k2 ne1 cx
      · exact TabS.mut (TabS.mut k2 ne2 cd) ne1 fun c q => by rw [upd_ne e]; exact cx c q
def eMake (c : Nat) (F : List D → M (List D)) (fa : Env → M (List D)) : Env → M D := fun ρ => M.bind (fa ρ) fun ds => M.bind (F ds) fun fs => M.ret (.obj c fs)
section
variable {X : Cx} {c : Nat} {C : Addr} {e o : Expr} {es : List Expr} {f : Env → M D} {fa : Env → M (List D)} {p pos : Pos} {x : Str} {k : Nat} {g : Addr} {fd : FuncData} {ps : List Str} {n : Nat} {Fi : List D → M (List D)}
theorem make_f (T : ClsAt X.K X.mg c C) (hn : ArN fa n) : ∀ σ H Q, tF X.K (eMake c Fi fa) σ H Q → tMake C (spI X.K n C Fi) [] E0 (tFA X.K fa) σ H Q := by
  rintro σ H Q ⟨ρ, G, b, d, b', rs, fz, ob, e, q⟩
  obtain ⟨ds, b1, e1, e2⟩ := M.bind_some e
  obtain ⟨fs, b2, e3, e4⟩ := M.bind_some e2
  cases e4
  refine ⟨ρ, G, b, ds, b1, rs, fz, ob, e1, fun ws G1 H1 n1 r1 => ?_⟩
  intro x dx hx hd ne
  have m1 : Nxt G1 H1 b1 G1 (upd H1 dx (.own x)) b1 := Nxt.newH n1.fz n1.bag hd
  have hx1 : upd H1 dx (.own x) x = none := by rw [upd_ne (Ne.symm ne)]; exact hx
  have m2 : Nxt G1 H1 b1 G1 (upd (upd H1 dx (.own x)) x (.ins C dx [])) b1 := m1.trans (Nxt.newH m1.fz m1.bag hx1)
  have gx : G1 x = none := gnone n1.fz hx
  have gd : G1 dx = none := gnone n1.fz hd
  refine ⟨x, dx, ws, G1, b1, ds, fs, b', by rw [List.append_nil], upd_same, by rw [upd_ne ne, upd_same], ne, gx, gd, bag_ne n1.bag hx, bag_ne n1.bag hd, r1, hn _ _ _ _ e1, m2.fz, m2.bag, e3, fun us G2 H2 n2 r2 => ⟨rfl, ?_⟩⟩
  have g2x : G2 x = none := n2.new x _ upd_same gx
  have g2d : G2 dx = none := n2.new dx (.own x) (by rw [upd_ne ne, upd_same]) gd
  have n3 : Nxt G1 H1 b1 G2 H2 b' := m2.trans n2
  refine q (.ref x) _ _ (n1.trans (n3.made n1.bag hx hd g2x g2d (nc_of (n2.keep x _ upd_same (bag_ne n1.bag hx))) (nc_of (n2.keep dx (.own x) (by rw [upd_ne ne, upd_same]) (bag_ne n1.bag hd))))) (.obj T.ns (C := C) (dx := dx) (vs := us) ?_ ?_ (r2.mono (slH_same g2x g2d)))
  · unfold SlX.slH
    exact upd_same
  · unfold SlX.slH
    rw [upd_ne ne, upd_same]
theorem d_make (T : ClsAt X.K X.mg c C) (hm : Mk X.K C g) (F : FnOk X.prog X.w X.K X.mg X.base CX0 k g fd ps (spI X.K n C Fi)) (hb : Binds X.K fd ps []) (hr : Room (k + 1) X.A) (hg : Gl X x) (hx : X.mg x = some (.ref C)) (ha : DA X (e :: es) fa) (hn : ArN fa n)
    (hdb : (x == ("__debug__" : Str)) = false := by decide) (he : starEach (e :: es) X.env = (false, eval e X.env) :: starEach es X.env := by rfl) (hpl : (backTo pos (starEach es X.env)).any (·.1) = false := by rfl) :
    DE X (.Call (.Name x p) (e :: es) [] pos) (eMake c Fi fa) := PEimp (pe_make hm F hr hg hx hb .nil pass0 ha hdb he hpl) (make_f T hn)
end
def selfOf (ρ : Env2) : Option Addr := match ρ[0]? with
  | some (some (Slot.val (D.bag x))) => some x
  | _ => none
theorem selfOf_some {ρ : Env2} {x : Addr} (h : selfOf ρ = some x) : ρ[0]? = some (some (.val (.bag x))) := by
  unfold selfOf at h
  split at h
  · cases h; assumption
  · cases h
def tI (K : PySem.W.Frag) (C : Addr) (F : Env2 → M (List D)) : TS := fun Dn σ H => ∃ E ρ G b fs b' x dx, SI K E σ ρ G H b ∧ E.H x = some (.ins C dx []) ∧ E.H dx = some (.own x) ∧ dx ≠ x ∧ ¬ E.b.hit x ∧ ¬ E.b.hit dx ∧ E.G x = none ∧ E.G dx = none ∧ selfOf ρ = some x ∧ F ρ b = some (fs, b') ∧
  ∀ σ' us G' H', NxtB EFF.x E.G E.H E.b G' H' b' → RpL K G' us fs → Dn.nx σ' (SlX.slH H' x C dx (us.map some))
abbrev DI0 (X : Cx) (C : Addr) (st : List Stmt) (F : Env2 → M (List D)) : Prop := PSs X st (tI X.K C F)
def iSeq (F1 : Env2 → M Out) (F2 : Env2 → M (List D)) (ρ : Env2) : M (List D) := M.bind (F1 ρ) fun o => match o with
  | .nx ρ1 => M.guard (decide (selfOf ρ1 = selfOf ρ)) (F2 ρ1)
  | _ => M.fail
section
variable {X : Cx} {C : Addr} {st : Stmt} {rest : List Stmt} {F : Env2 → M Out} {F2 : Env2 → M (List D)} {pos : Pos}
theorem i_cons (h : DS X st F) (h2 : DI0 X C rest F2) : DI0 X C (st :: rest) (iSeq F F2) := by
  refine PSsimp (pss_cons h h2) ?_
  rintro D σ H ⟨E, ρ, G, b, fs, b', x, dx, I, h1, h2, h3, h4, h5, h6, h7, h8, e, q⟩
  obtain ⟨o, b1, e1, e2⟩ := M.bind_some e
  refine ⟨E, ρ, G, b, o, b1, I, e1, ?_⟩
  cases o with
  | nx ρ1 =>
    obtain ⟨hs, e3⟩ := M.guard_some e2
    exact fun σ' G' H' I' => ⟨E, ρ1, G', b1, fs, b', x, dx, I', h1, h2, h3, h4, h5, h6, h7, by rw [of_decide_eq_true hs]; exact h8, e3, q⟩
  | _ => cases e2
end
end DL
set_option Elab.async false
set_option maxRecDepth 100000
set_option autoImplicit false
set_option linter.unusedVariables false
set_option maxHeartbeats 4000000
namespace DL
open PySem L2 PySem.Spec PyProof.Rows
variable [TAB : TabList]
variable [EFF : Eff]
set_option linter.unusedSectionVars false
end DL
set_option Elab.async false
set_option maxRecDepth 100000
set_option autoImplicit false
set_option linter.unusedVariables false
set_option maxHeartbeats 4000000
namespace DL
open PySem L2 PySem.Spec PyProof.Rows
variable [TAB : TabList]
variable [EFF : Eff]
set_option linter.unusedSectionVars false
def tyD : D → Option String
  | .non => some "NoneType" | .bl _ => some "bool" | .int _ => some "int" | .str _ => some "str" | .lst _ => some "list" | .tup _ => some "tuple" | .dct _ _ => some "dict" | _ => none
def isT (t T : String) : Bool := t == T || (t == "bool" && T == "int")
theorem tyD_of {K : PySem.W.Frag} {G H : Hp} {v : V} {d : D} {t : String} (r : Rp K G v d) (s : SameF G H) (h : tyD d = some t) : TyX K H v (.type t) := by
  cases r with
  | non => cases h; exact .base .non
  | bl b => cases h; exact .base (.bl b)
  | int i => cases h; exact .base (.int i)
  | str x => cases h; exact .base (.str _)
  | lst h1 h2 => cases h; exact .base (.lst (s _ _ h1))
  | tup h1 h2 =>
    cases h
    rcases SameF.sqt s h1 with (h1 | ⟨o, h1⟩) | ⟨o, its, n, h1, h2, _⟩
    · exact .base (.tup h1)
    · exact .fTuple h1
    · exact .kTuple h1 h2
  | dct h1 h2 h3 =>
    cases h
    rcases SameF.rd s h1 with h1 | ⟨o, h1⟩
    · exact .base (.dK h1)
    · exact .fDict h1
  | _ => cases h
def isiD (T : String) (d : D) : M D := match tyD d with
  | some t => M.ret (.bl (isT t T))
  | none => M.fail
def tys : List String := ["NoneType", "bool", "int", "str", "list", "tuple", "dict"]
theorem kit_isT {K : PySem.W.Frag} : ∀ t ∈ tys, ∀ T ∈ tys, PySem.W.kitOne K (.type t) (.type T) = some (isT t T) := by
  intro t ht T hT
  simp only [tys, List.mem_cons, List.not_mem_nil, or_false] at ht hT
  rcases ht with rfl | rfl | rfl | rfl | rfl | rfl | rfl <;> rcases hT with rfl | rfl | rfl | rfl | rfl | rfl | rfl <;> rfl
theorem tyD_mem {d : D} {t : String} (h : tyD d = some t) : t ∈ tys := by
  cases d <;> cases h <;> decide
section
variable {X : Cx} {e : Expr} {f : Env → M D} {p p2 pos : Pos}
theorem d_isi {T : String} {x : Str} (hT : T ∈ tys) (hg : Gl X "isinstance") (hm : X.mg "isinstance" = none) (hgt : Gl X x) (hmt : X.mg x = none) (hvt : bootBuiltins x = some (.type T)) (he : DE X e f) (hnt : x ≠ "__name__" := by decide) (hdt : (x == ("__debug__" : Str)) = false := by decide)
    (hs : starEach [e, .Name x p2] X.env = (false, eval e X.env) :: starEach [.Name x p2] X.env := by rfl) (hs2 : starEach [.Name x p2] X.env = (false, eval (.Name x p2) X.env) :: starEach [] X.env := by rfl)
    (hpl : (backTo pos (starEach [.Name x p2] X.env)).any (·.1) = false := by rfl) :
    DE X (.Call (.Name "isinstance" p) [e, .Name x p2] [] pos) (e1 (isiD T) f) := by
  have pt : PE X (.Name x p2) (tC (.ty T)) := ⟨fun _ _ _ H _ I h => ld_blt I hgt hmt hvt ⟨.ty T, H, I, rfl, h⟩ hnt hdt⟩
  refine PEimp (pe_callB call_isi hg hm (by decide +kernel) (pa_cons he (pa_cons pt pa_nil hs2) hs) (he := hs) (hpl := hpl)) ?_
  rintro σ H Q ⟨ρ, G, b, d, b', rs, fz, ob, e, q⟩
  obtain ⟨x, b1, e1, e2⟩ := M.bind_some e
  refine ⟨ρ, G, b, x, b1, rs, fz, ob, e1, fun v G1 H1 n1 r => ?_⟩
  unfold isiD at e2
  cases et : tyD x with
  | none => rw [et] at e2; cases e2
  | some t =>
    rw [et] at e2
    cases e2
    exact ⟨v, .ty T, .type t, .type T, _, rfl, .ty T, tyD_of r n1.fz et, kit_isT t (tyD_mem et) T hT, q _ G1 H1 n1 (.bl _)⟩
def blsD : List D → Option (List Bool)
  | [] => some []
  | .bl b :: r => (blsD r).map (b :: ·)
  | _ => none
theorem blsD_of {K : PySem.W.Frag} {G : Hp} : ∀ {vs : List V} {ds : List D} {bs : List Bool}, RpL K G vs ds → blsD ds = some bs → vs = bs.map V.bl
  | _, _, _, .nil, h => by cases h; rfl
  | _, _, bs, .cons (d := d) (ds := ds) r rl, h => by
    cases r with
    | bl b =>
      obtain ⟨bs', h1, rfl⟩ := Option.map_eq_some_iff.mp (show (blsD ds).map (b :: ·) = some bs from h)
      rw [blsD_of rl h1]; rfl
    | _ => cases h
def allF : List D → M D
  | [.lst xs] => match blsD xs with
    | some bs => M.ret (.bl (bs.all id))
    | none => M.fail
  | _ => M.fail
def anyF : List D → M D
  | [.lst xs] => match blsD xs with
    | some bs => M.ret (.bl (bs.any id))
    | none => M.fail
  | _ => M.fail
theorem snd_all : SndC X.K (rAll X.K) allF := by
  intro G H b vs ds d b' Q r fz ob e q
  unfold allF at e
  split at e
  · rename_i xs
    obtain ⟨v, rfl, r1⟩ := r.one
    cases r1 with
    | lst h1 h2 =>
      cases hb : blsD xs with
      | none => rw [hb] at e; cases e
      | some bs =>
        rw [hb] at e
        cases e
        cases blsD_of h2 hb
        exact ⟨_, bs, rfl, SqL.of (fz _ _ h1), q _ _ _ (Nxt.refl fz ob) (.bl _)⟩
  · cases e
theorem snd_any : SndC X.K (rAny X.K) anyF := by
  intro G H b vs ds d b' Q r fz ob e q
  unfold anyF at e
  split at e
  · rename_i xs
    obtain ⟨v, rfl, r1⟩ := r.one
    cases r1 with
    | lst h1 h2 =>
      cases hb : blsD xs with
      | none => rw [hb] at e; cases e
      | some bs =>
        rw [hb] at e
        cases e
        cases blsD_of h2 hb
        exact ⟨_, bs, rfl, SqL.of (fz _ _ h1), q _ _ _ (Nxt.refl fz ob) (.bl _)⟩
  · cases e
variable {fa : Env → M (List D)}
theorem d_all (hc : X.calm = true) (hg : Gl X "all") (hm : X.mg "all" = none) (ha : DA X [e] fa) (he : starEach [e] X.env = (false, eval e X.env) :: starEach [] X.env := by rfl) : DE X (.Call (.Name "all" p) [e] [] pos) (fun ρ => M.bind (fa ρ) allF) :=
  d_callB (cr_all hc) snd_all hg hm (by decide +kernel) ha (he := he)
theorem d_any (hc : X.calm = true) (hg : Gl X "any") (hm : X.mg "any" = none) (ha : DA X [e] fa) (he : starEach [e] X.env = (false, eval e X.env) :: starEach [] X.env := by rfl) : DE X (.Call (.Name "any" p) [e] [] pos) (fun ρ => M.bind (fa ρ) anyF) :=
  d_callB (cr_any hc) snd_any hg hm (by decide +kernel) ha (he := he)
def strF : List D → M D
  | [.int i] => M.guard (decide (i.natAbs.log2 < 1920)) (M.ret (.str ((toString i : Str).cps.toList)))
  | _ => M.fail
def eChain (h h' : D → D → M D) (f g k : Env → M D) : Env → M D := fun ρ => M.bind (f ρ) fun x => M.bind (g ρ) fun y => M.bind (h x y) fun z => M.bind (asB z) fun t => if t = true then M.bind (k ρ) (h' y) else M.ret (.bl false)
theorem chain_f {K : PySem.W.Frag} {r r' : R2} {h h' : D → D → M D} {f g k : Env → M D} (hs : SndR K r h) (hs' : SndR K r' h') : ∀ σ H Q, tF K (eChain h h' f g k) σ H Q → tChain r r' (tF K f) (tF K g) (tF K k) σ H Q := by
  rintro σ H Q ⟨ρ, G, b, d, b', rs, fz, ob, e, q⟩
  obtain ⟨x, b1, e1, e⟩ := M.bind_some e
  obtain ⟨y, b2, e2, e⟩ := M.bind_some e
  obtain ⟨z, b3, e3, e⟩ := M.bind_some e
  obtain ⟨t, b4, e4, e⟩ := M.bind_some e
  obtain ⟨rfl, rfl⟩ := asB_some e4
  refine ⟨ρ, G, b, x, b1, rs, fz, ob, e1, fun v1 G1 H1 n1 r1 => ?_⟩
  refine ⟨ρ, G1, b1, y, b2, rs.mono n1.gg, n1.fz, n1.bag, e2, fun v2 G2 H2 n2 r2 => ?_⟩
  refine hs G2 H2 b2 v1 v2 x y _ b3 _ (r1.mono n2.gg) r2 n2.fz n2.bag e3 fun v3 G3 H3 n3 r3 => ?_
  cases r3
  refine ⟨t, rfl, ?_⟩
  cases t with
  | false =>
    cases e
    exact q _ G3 H3 ((n1.trans n2).trans n3) (.bl _)
  | true =>
    obtain ⟨w, b5, e5, e6⟩ := M.bind_some e
    refine ⟨ρ, G3, b3, w, b5, rs.mono ((n1.trans n2).trans n3).gg, n3.fz, n3.bag, e5, fun v5 G5 H5 n5 r5 => ?_⟩
    exact hs' G5 H5 b5 v2 v5 y w d b' Q (r2.mono (n3.trans n5).gg) r5 n5.fz n5.bag e6 fun v G' H' n6 r6 => q v G' H' ((((n1.trans n2).trans n3).trans n5).trans n6) r6
theorem d_chain {op op' : CmpOp} {r r' : R2} {h h' : D → D → M D} {a b c : Expr} {f g k : Env → M D} (ho : OpR X (compareOp op) r) (ho' : OpR X (compareOp op') r') (hs : SndR X.K r h) (hs' : SndR X.K r' h') (ha : DE X a f) (hb : DE X b g) (hc : DE X c k)
    (hm : lastMarks [op, op'] [b, c] = false := by with_unfolding_all rfl) : DE X (.Compare a [op, op'] [b, c] pos) (eChain h h' f g k) := PEimp (pe_chain ho ho' ha hb hc hm) (chain_f hs hs')
end
end DL
set_option Elab.async false
set_option maxRecDepth 100000
set_option autoImplicit false
set_option linter.unusedVariables false
set_option maxHeartbeats 4000000
namespace DL
open PySem L2 PySem.Spec PyProof.Rows PySem.Calls PySem.NumText
variable [TAB : TabList]
variable [EFF : Eff]
set_option linter.unusedSectionVars false
structure BinOk (x : PySem.Str) (n : Int) : Prop where
  s : (numSeenOf x).length ≤ 640
  r : (int_private% "readNumeral") 0 2 (numSeenOf x) = (int_private% "Numeral.value") n
  a : ((numSeenOf x).length == (numTextOf x).length) = true
theorem RpL.two {K : PySem.W.Frag} {G : Hp} {vs : List V} {d e : D} (r : RpL K G vs [d, e]) : ∃ v w, vs = [v, w] ∧ Rp K G v d ∧ Rp K G w e := by
  cases r with
  | cons a r => obtain ⟨w, rfl, b⟩ := r.one; exact ⟨_, _, rfl, a, b⟩
end DL
set_option Elab.async false
set_option maxRecDepth 100000
set_option autoImplicit false
set_option linter.unusedVariables false
set_option maxHeartbeats 4000000
namespace DL
open PySem L2 PySem.Spec PyProof.Rows
variable [TAB : TabList]
set_option linter.unusedSectionVars false
def inCls (s : Stmt) (j : Nat) : Stmt := match s with
  | .ClassDef _ _ _ body _ _ _ _ _ _ _ => body.getD j (.Pass ⟨0, 0, 0, 0⟩)
  | _ => .Pass ⟨0, 0, 0, 0⟩
structure MethAt (K : PySem.W.Frag) (C : Addr) (x qual : Str) (st : Stmt) (ps : List Str) (f : Addr) (fd : FuncData) : Prop where
  fn : Fun K x qual st f fd
  bd : Binds K fd ps []
  me : Meth K C x f
structure GetAt (K : PySem.W.Frag) (C p : Addr) (x qual : Str) (st : Stmt) (ps : List Str) (f : Addr) (fd : FuncData) : Prop where
  fn : Fun K x qual st f fd
  bd : Binds K fd ps []
  pr : PropAt K C x p f
structure FunV (K : PySem.W.Frag) (x qual : Str) (st : Stmt) (f : Addr) (fd : FuncData) : Prop where
  ex : ∃ (oc : Value) (od : Option Addr) (dV kV doc pm : Value) (an : Option Addr) (cdv ct : Value) (osl : Array (Option Value)),
    fd = PySem.W.fnOf x qual (defArgs st) (defBody st) (defScope st) dV kV doc pm an cdv ct ∧ K.lookup f = some ⟨oc, od, .func fd, osl⟩ ∧ PySem.W.codeIn K cdv qual = true
  kp : PySem.W.keepIn K (.ref f) = true
theorem funV_mk {K : PySem.W.Frag} {x qual : Str} {st : Stmt} {f : Addr} {oc : Value} {od an : Option Addr} {osl : Array (Option Value)} {dV kV doc pm cdv ct : Value} (l : K.lookup f = some ⟨oc, od, .func (PySem.W.fnOf x qual (defArgs st) (defBody st) (defScope st) dV kV doc pm an cdv ct), osl⟩)
    (c : PySem.W.codeIn K cdv qual = true) (k : PySem.W.keepIn K (.ref f) = true) : FunV K x qual st f (PySem.W.fnOf x qual (defArgs st) (defBody st) (defScope st) dV kV doc pm an cdv ct) := ⟨⟨oc, od, dV, kV, doc, pm, an, cdv, ct, osl, rfl, l, c⟩, k⟩
structure InitAt (K : PySem.W.Frag) (C : Addr) (qual : Str) (st : Stmt) (ps : List Str) (f : Addr) (fd : FuncData) : Prop where
  fn : FunV K "__init__" qual st f fd
  bd : Binds K fd ps []
  im : Mk K C f
section
variable {P : Program} {w : World} {K : PySem.W.Frag} {mg : Str → Option Value} {base : Heap} {x qual : Str} {st : Stmt} {f C : Addr} {fd : FuncData} {N ps : List Str} {k n : Nat} {Fs : Env2 → M (List D)} {Fi : List D → M (List D)}
theorem FunV.ok {sp : Sp} (F : FunV K x qual st f fd) (S : FnScope N ps (defScope st)) (len : ∀ vs H Q E, sp vs H Q E → vs.length = ps.length)
    (hbody : ∀ (cdv : Value) (A : Around) (outer : List PySem.Env) (s : Shared) (H : Hp) (vs : List V) (Q : VK) (E : XK), Room k (A.deeper (envOfC qual (defScope st) s.heap.objs.size f cdv)) → sp vs H Q E →
      ∃ t, PSs (cxOf CX0 P w K mg base N qual (defScope st) f cdv A outer s H E).nox (defBody st) t ∧ t { nx := fun _ H' => Q .non H', rt := Q } (L2.start N vs) H) : FnOk P w K mg base CX0 (k + 1) f fd ps sp := by
  obtain ⟨oc, od, dV, kV, doc, pm, an, cdv, ct, osl, rfl, lk, hcd⟩ := F.ex
  refine fn_of lk hcd S len fun A outer s H vs Q E hr hsp => ?_
  obtain ⟨t, h, q⟩ := hbody cdv A outer s H vs Q E hr hsp
  exact ⟨t, h.nox, q⟩
theorem fnI (F : FunV K x qual st f fd) (S : FnScope N ps (defScope st)) (hn : ps.length = n + 1) (hF : ∀ x ds b r, ds.length = n → Fi ds b = some r → Fs (startD N.length (.bag x :: ds)) b = some r)
    (hb : ∀ (cdv : Value) (A : Around) (outer : List PySem.Env) (s : Shared) (H : Hp) (E : XK), Room k (A.deeper (envOfC qual (defScope st) s.heap.objs.size f cdv)) → DI0 (cxOf CX0 P w K mg base N qual (defScope st) f cdv A outer s H E).nox C (defBody st) Fs) :
    FnOk P w K mg base CX0 (k + 1) f fd ps (spI K n C Fi) := by
  refine F.ok S ?_ fun cdv A outer s H vs Q E hr h => ⟨_, hb cdv A outer s H E hr, ?_⟩
  · rintro vs H Q E ⟨x, dx, ws, G, b, ds, fs, b', rfl, _, _, _, _, _, _, _, r, hl, _⟩
    rw [List.length_cons, r.length, hl, hn]
  · obtain ⟨x, dx, ws, G, b, ds, fs, b', rfl, k1, k2, k3, k4, k5, k6, k7, r, hl, fz, ob, e, q⟩ := h
    exact ⟨⟨G, H, b⟩, _, G, b, fs, b', x, dx, SI.start (.cons (.bag x) r) fz ob, k1, k2, k3, k6, k7, k4, k5, rfl, hF x ds b _ hl e, fun σ' us G' H' n r => q us G' H' n r⟩
end
end DL
set_option Elab.async false
set_option maxRecDepth 100000
set_option autoImplicit false
set_option linter.unusedVariables false
set_option maxHeartbeats 4000000
namespace DL
open PySem L2
variable [TAB : TabList]
variable [EFF : Eff]
set_option linter.unusedSectionVars false
def isNonD : D → Bool
  | .non => true
  | _ => false
def isD (neg : Bool) : D → D → M D
  | x, .non => M.ret (.bl (if neg then !isNonD x else isNonD x))
  | _, _ => M.fail
theorem Rp.isNon {K : PySem.W.Frag} {G : Hp} {v : V} {d : D} (r : Rp K G v d) : decide (v = .non) = isNonD d := by
  cases r <;> first | rfl | exact decide_eq_false (fun z => by cases z)
theorem snd_is {K : PySem.W.Frag} : SndR K (fun x y H Q => y = .non ∧ Q (.bl (decide (x = .non))) H) (isD false) := by
  intro G H b x y dx dy d b' Q rx ry f o e q
  cases ry with
  | non =>
    cases e
    rw [rx.isNon]
    exact ⟨rfl, q _ G H (Nxt.refl f o) (.bl _)⟩
  | _ => cases e
theorem snd_isnt {K : PySem.W.Frag} : SndR K (fun x y H Q => y = .non ∧ Q (.bl (!decide (x = .non))) H) (isD true) := by
  intro G H b x y dx dy d b' Q rx ry f o e q
  cases ry with
  | non =>
    cases e
    rw [rx.isNon]
    exact ⟨rfl, q _ G H (Nxt.refl f o) (.bl _)⟩
  | _ => cases e
section
variable {X : Cx} {a b : Expr} {f g : Env → M D} {pos : Pos}
theorem t_is (ha : DE X a f) (hb : DE X b g) (hm : behindInMarks .Is b = false := by rfl) : DT X (.Compare a [.Is] [b] pos) (t2 (isD false) f g) := t_cmp op_isN snd_is ha hb hm
theorem t_isnt (ha : DE X a f) (hb : DE X b g) (hm : behindInMarks .IsNot b = false := by rfl) : DT X (.Compare a [.IsNot] [b] pos) (t2 (isD true) f g) := t_cmp op_notN snd_isnt ha hb hm
def flatD : D → Bool
  | .non => true
  | .bl _ => true
  | .int _ => true
  | .str _ => true
  | _ => false
def eqF : D → D → Bool
  | .non, .non => true
  | .bl a, .bl b => a == b
  | .bl a, .int b => (if a then 1 else 0) == b
  | .int a, .bl b => a == (if b then 1 else 0)
  | .int a, .int b => a == b
  | .str a, .str b => a == b
  | _, _ => false
def inE (neg : Bool) : D → D → M D
  | .str [c], .str z => M.ret (.bl (if neg then !decide (c ∈ z) else decide (c ∈ z)))
  | x, .lst xs => M.guard (flatD x && xs.all flatD) (M.ret (.bl (if neg then !xs.any (fun y => eqF y x) else xs.any (fun y => eqF y x))))
  | x, .tup xs => M.guard (flatD x && xs.all flatD) (M.ret (.bl (if neg then !xs.any (fun y => eqF y x) else xs.any (fun y => eqF y x))))
  | _, _ => M.fail
theorem Rp.flatV {K : PySem.W.Frag} {G : Hp} {v : V} {d : D} (r : Rp K G v d) (h : flatD d = true) : L2.flatV v = true := by
  cases r <;> first | rfl | cases h
theorem str_beq (a b : List Nat) : ((⟨a.toArray⟩ : Str) == ⟨b.toArray⟩) = (a == b) := by
  rw [Bool.eq_iff_iff, beq_iff_eq, beq_iff_eq]
  refine ⟨fun h => ?_, fun h => by rw [h]⟩
  have := congrArg (fun z : Str => z.cps.toList) h
  simpa using this
theorem eqV_str (a b : List Nat) : L2.eqV (V.str ⟨a.toArray⟩) (V.str ⟨b.toArray⟩) = eqF (.str a) (.str b) := str_beq a b
theorem Rp.eqV {K : PySem.W.Frag} {G : Hp} {v w : V} {d e : D} (r : Rp K G v d) (r2 : Rp K G w e) (h : flatD d = true) (h2 : flatD e = true) : L2.eqV v w = eqF d e := by
  cases r <;> cases r2 <;> first | exact eqV_str _ _ | rfl | (exfalso; cases h; done) | (exfalso; cases h2; done)
theorem RpL.flats {K : PySem.W.Frag} {G : Hp} : ∀ {vs : List V} {ds : List D}, RpL K G vs ds → ds.all flatD = true → vs.all L2.flatV = true
  | _, _, .nil, _ => rfl
  | _, _, .cons a r, h => by
    rw [List.all_cons, Bool.and_eq_true] at h
    rw [List.all_cons, a.flatV h.1, RpL.flats r h.2]; rfl
theorem RpL.inV {K : PySem.W.Frag} {G : Hp} {w : V} {e : D} (re : Rp K G w e) (he : flatD e = true) : ∀ {vs : List V} {ds : List D}, RpL K G vs ds → ds.all flatD = true → L2.inV w vs = ds.any (fun y => eqF y e)
  | _, _, .nil, _ => rfl
  | _, _, .cons a r, h => by
    rw [List.all_cons, Bool.and_eq_true] at h
    show (L2.eqV _ w || L2.inV w _) = _
    rw [List.any_cons, a.eqV re h.1 he, RpL.inV re he r h.2]
theorem snd_inE (neg : Bool) : SndR X.K (fun x y H Q => (∃ (c : Nat) (z : Str), x = .str ⟨#[c]⟩ ∧ y = .str z ∧ Q (.bl (if neg then !decide (c ∈ z.cps.toList) else decide (c ∈ z.cps.toList))) H) ∨ rIn X.K neg x y H Q) (inE neg) := by
  intro G H b x y dx dy d b' Q rx ry f o e q
  unfold inE at e
  split at e
  · rename_i c z
    cases e
    cases rx
    cases ry
    refine .inl ⟨c, _, rfl, rfl, ?_⟩
    have := q (.bl (if neg then !decide (c ∈ z) else decide (c ∈ z))) G H (Nxt.refl f o) (.bl _)
    simpa using this
  · rename_i xs
    obtain ⟨k, e⟩ := M.guard_some e
    rw [Bool.and_eq_true] at k
    cases e
    cases ry with
    | lst h1 h2 =>
      refine .inr ⟨_, _, rfl, .inl (SqL.of (f _ _ h1)), rx.flatV k.1, h2.flats k.2, ?_⟩
      rw [h2.inV rx k.1 k.2]
      exact q _ G H (Nxt.refl f o) (.bl _)
  · rename_i xs
    obtain ⟨k, e⟩ := M.guard_some e
    rw [Bool.and_eq_true] at k
    cases e
    cases ry with
    | tup h1 h2 =>
      refine .inr ⟨_, _, rfl, .inr (SameF.sqt f h1), rx.flatV k.1, h2.flats k.2, ?_⟩
      rw [h2.inV rx k.1 k.2]
      exact q _ G H (Nxt.refl f o) (.bl _)
  · cases e
theorem op_inE : OpR X (compareOp .In) (fun x y H Q => (∃ (c : Nat) (z : Str), x = .str ⟨#[c]⟩ ∧ y = .str z ∧ Q (.bl (if false then !decide (c ∈ z.cps.toList) else decide (c ∈ z.cps.toList))) H) ∨ rIn X.K false x y H Q) := op_in_sign.or op_in_seq
theorem op_notInE : OpR X (compareOp .NotIn) (fun x y H Q => (∃ (c : Nat) (z : Str), x = .str ⟨#[c]⟩ ∧ y = .str z ∧ Q (.bl (if true then !decide (c ∈ z.cps.toList) else decide (c ∈ z.cps.toList))) H) ∨ rIn X.K true x y H Q) := op_notIn_sign.or op_notIn_seq
def intsD : List D → Option (List Int)
  | [] => some []
  | .int i :: r => (intsD r).map (i :: ·)
  | _ => none
theorem intsD_of {K : PySem.W.Frag} {G : Hp} : ∀ {vs : List V} {ds : List D} {is : List Int}, RpL K G vs ds → intsD ds = some is → vs = is.map V.int
  | _, _, _, .nil, h => by cases h; rfl
  | _, _, is, .cons (d := d) (ds := ds) r rl, h => by
    cases r with
    | int i =>
      cases e : intsD ds with
      | none => unfold intsD at h; rw [e] at h; cases h
      | some js =>
        unfold intsD at h
        rw [e] at h
        cases h
        rw [List.map_cons, intsD_of rl e]
    | _ => cases h
theorem intsD_map (is : List Int) : intsD (is.map D.int) = some is := by
  induction is with
  | nil => rfl
  | cons i r ih => show (intsD (r.map D.int)).map (i :: ·) = _; rw [ih]; rfl
def sumF : List D → M D
  | [.lst xs] => match intsD xs with
    | some is => M.ret (.int is.sum)
    | none => M.fail
  | _ => M.fail
theorem snd_sum : SndC X.K (rSum X.K) sumF := by
  intro G H b vs ds d b' Q r fz ob e q
  unfold sumF at e
  split at e
  · rename_i xs
    obtain ⟨v, rfl, r1⟩ := r.one
    cases r1 with
    | lst h1 h2 =>
      cases ei : intsD xs with
      | none => rw [ei] at e; cases e
      | some is =>
        rw [ei] at e
        cases e
        have hv := intsD_of h2 ei
        subst hv
        exact ⟨_, is, rfl, SqL.of (fz _ _ h1), q _ G H (Nxt.refl fz ob) (.int _)⟩
  · cases e
def maxZ (i j : Int) : Int := if j > i then j else i
def minZ (i j : Int) : Int := if j < i then j else i
def maxL : List Int → Int
  | [] => 0
  | i :: r => r.foldl max i
def minL : List Int → Int
  | [] => 0
  | i :: r => r.foldl min i
theorem foldl_max (r : List Int) (i : Int) : r.foldl max i ∈ i :: r ∧ ∀ y ∈ i :: r, y ≤ r.foldl max i := by
  induction r generalizing i with
  | nil => simp
  | cons a r ih =>
    obtain ⟨h1, h2⟩ := ih (max i a)
    refine ⟨?_, ?_⟩
    · rw [List.foldl_cons]
      rcases List.mem_cons.mp h1 with h | h
      · rw [h]
        rcases Int.le_total i a with z | z
        · rw [Int.max_eq_right z]; simp
        · rw [Int.max_eq_left z]; simp
      · simp [h]
    · intro y hy
      rw [List.foldl_cons]
      have hm := h2 (max i a) (by simp)
      rcases List.mem_cons.mp hy with rfl | hy
      · omega
      · rcases List.mem_cons.mp hy with rfl | hy
        · omega
        · exact h2 y (by simp [hy])
theorem foldl_min (r : List Int) (i : Int) : r.foldl min i ∈ i :: r ∧ ∀ y ∈ i :: r, r.foldl min i ≤ y := by
  induction r generalizing i with
  | nil => simp
  | cons a r ih =>
    obtain ⟨h1, h2⟩ := ih (min i a)
    refine ⟨?_, ?_⟩
    · rw [List.foldl_cons]
      rcases List.mem_cons.mp h1 with h | h
      · rw [h]
        rcases Int.le_total i a with z | z
        · rw [Int.min_eq_left z]; simp
        · rw [Int.min_eq_right z]; simp
      · simp [h]
    · intro y hy
      rw [List.foldl_cons]
      have hm := h2 (min i a) (by simp)
      rcases List.mem_cons.mp hy with rfl | hy
      · omega
      · rcases List.mem_cons.mp hy with rfl | hy
        · omega
        · exact h2 y (by simp [hy])
def maxF : List D → M D
  | [.lst xs] => match intsD xs with
    | some (i :: r) => M.ret (.int (maxL (i :: r)))
    | _ => M.fail
  | [.int i, .int j] => M.ret (.int (maxZ i j))
  | _ => M.fail
def minF : List D → M D
  | [.lst xs] => match intsD xs with
    | some (i :: r) => M.ret (.int (minL (i :: r)))
    | _ => M.fail
  | [.int i, .int j] => M.ret (.int (minZ i j))
  | _ => M.fail
theorem snd_max : SndC X.K (fun xs H Q => (∃ i j, xs = [.int i, .int j] ∧ Q (.int (if j > i then j else i)) H) ∨ rMax X.K xs H Q) maxF := by
  intro G H b vs ds d b' Q r fz ob e q
  unfold maxF at e
  split at e
  · rename_i xs
    obtain ⟨v, rfl, r1⟩ := r.one
    cases r1 with
    | lst h1 h2 =>
      cases ei : intsD xs with
      | none => rw [ei] at e; cases e
      | some is =>
      rw [ei] at e
      cases is with
      | nil => cases e
      | cons i r' =>
        cases e
        have hv := intsD_of h2 ei
        subst hv
        have := foldl_max r' i
        refine .inr ⟨_, _, rfl, SqL.of (fz _ _ h1), by simp, fun m hm hle => ?_⟩
        have e : m = maxL (i :: r') := Int.le_antisymm (this.2 m hm) (hle _ this.1)
        rw [e]
        exact q _ G H (Nxt.refl fz ob) (.int _)
  · obtain ⟨v, w, rfl, r1, r2⟩ := r.two
    cases r1
    cases r2
    cases e
    exact .inl ⟨_, _, rfl, q _ G H (Nxt.refl fz ob) (.int _)⟩
  · cases e
theorem snd_min : SndC X.K (fun xs H Q => (∃ i j, xs = [.int i, .int j] ∧ Q (.int (if j < i then j else i)) H) ∨ rMin X.K xs H Q) minF := by
  intro G H b vs ds d b' Q r fz ob e q
  unfold minF at e
  split at e
  · rename_i xs
    obtain ⟨v, rfl, r1⟩ := r.one
    cases r1 with
    | lst h1 h2 =>
      cases ei : intsD xs with
      | none => rw [ei] at e; cases e
      | some is =>
      rw [ei] at e
      cases is with
      | nil => cases e
      | cons i r' =>
        cases e
        have hv := intsD_of h2 ei
        subst hv
        have := foldl_min r' i
        refine .inr ⟨_, _, rfl, SqL.of (fz _ _ h1), by simp, fun m hm hle => ?_⟩
        have e : m = minL (i :: r') := Int.le_antisymm (hle _ this.1) (this.2 m hm)
        rw [e]
        exact q _ G H (Nxt.refl fz ob) (.int _)
  · obtain ⟨v, w, rfl, r1, r2⟩ := r.two
    cases r1
    cases r2
    cases e
    exact .inl ⟨_, _, rfl, q _ G H (Nxt.refl fz ob) (.int _)⟩
  · cases e
def listF : List D → M (List D)
  | [.lst xs] => M.ret xs
  | [.tup xs] => M.ret xs
  | _ => M.fail
theorem snd_list : SndCN X.K (fun xs H Q => ∃ p ys, xs = [.ref p] ∧ (SqL X.K H p ys ∨ SqT X.K H p ys) ∧ ∀ l, H l = none → Q (.ref l) (upd H l (.lst ys))) listF := by
  intro G H b vs ds xs b' Q r fz ob e q
  unfold listF at e
  split at e
  · obtain ⟨v, rfl, r1⟩ := r.one
    cases r1 with
    | lst h1 h2 =>
      cases e
      exact ⟨_, _, rfl, .inl (SqL.of (fz _ _ h1)), fun l hl => q l _ G _ (Nxt.newH fz ob hl) hl (gnone fz hl) upd_same h2⟩
  · obtain ⟨v, rfl, r1⟩ := r.one
    cases r1 with
    | tup h1 h2 =>
      cases e
      exact ⟨_, _, rfl, .inr (SameF.sqt fz h1), fun l hl => q l _ G _ (Nxt.newH fz ob hl) hl (gnone fz hl) upd_same h2⟩
  · cases e
variable {e : Expr} {es : List Expr} {fa : Env → M (List D)} {p : Pos}
theorem d_sum (hc : X.calm = true) (hg : Gl X "sum") (hm : X.mg "sum" = none) (ha : DA X [e] fa) (he : starEach [e] X.env = (false, eval e X.env) :: starEach [] X.env := by rfl) : DE X (.Call (.Name "sum" p) [e] [] pos) (eCall sumF fa) :=
  d_callB (cr_sum hc) snd_sum hg hm (by decide +kernel) ha (he := he)
theorem d_max (hc : X.calm = true) (hg : Gl X "max") (hm : X.mg "max" = none) (ha : DA X (e :: es) fa) (he : starEach (e :: es) X.env = (false, eval e X.env) :: starEach es X.env := by rfl) (hpl : (backTo pos (starEach es X.env)).any (·.1) = false := by rfl) : DE X (.Call (.Name "max" p) (e :: es) [] pos) (eCall maxF fa) :=
  d_callB ((call_max2 hc).or (cr_max hc)) snd_max hg hm (by decide +kernel) ha (he := he) (hpl := hpl)
theorem dn_list (hg : Gl X "list") (hm : X.mg "list" = none) (ha : DA X [e] fa) (he : starEach [e] X.env = (false, eval e X.env) :: starEach [] X.env := by rfl) : DN X (.Call (.Name "list" p) [e] [] pos) (nCall listF fa) :=
  dn_callTy call_list_of snd_list hg hm (by decide +kernel) ha (he := he)
def isiD2 (T U : String) (d : D) : M D := match tyD d with
  | some t => M.ret (.bl (isT t T || isT t U))
  | none => M.fail
theorem d_isi2 {T U : String} {x y : Str} {p2 p3 p4 : Pos} {k : Nat} (hT : T ∈ tys) (hU : U ∈ tys) (hg : Gl X "isinstance") (hm : X.mg "isinstance" = none) (hgt : Gl X x) (hmt : X.mg x = none) (hvt : bootBuiltins x = some (.type T)) (hgu : Gl X y) (hmu : X.mg y = none) (hvu : bootBuiltins y = some (.type U)) (he : DE X e f)
    (hnt : x ≠ "__name__" := by decide) (hdt : (x == ("__debug__" : Str)) = false := by decide) (hnu : y ≠ "__name__" := by decide) (hdu : (y == ("__debug__" : Str)) = false := by decide)
    (hs : starEach [e, .Tuple [.Name x p2, .Name y p3] k p4] X.env = (false, eval e X.env) :: starEach [.Tuple [.Name x p2, .Name y p3] k p4] X.env := by rfl) (hs2 : starEach [.Tuple [.Name x p2, .Name y p3] k p4] X.env = (false, eval (.Tuple [.Name x p2, .Name y p3] k p4) X.env) :: starEach [] X.env := by rfl)
    (hs3 : starEach [.Name x p2, .Name y p3] X.env = (false, eval (.Name x p2) X.env) :: starEach [.Name y p3] X.env := by rfl) (hs4 : starEach [.Name y p3] X.env = (false, eval (.Name y p3) X.env) :: starEach [] X.env := by rfl)
    (hpl : (backTo pos (starEach [.Tuple [.Name x p2, .Name y p3] k p4] X.env)).any (·.1) = false := by rfl) :
    DE X (.Call (.Name "isinstance" p) [e, .Tuple [.Name x p2, .Name y p3] k p4] [] pos) (e1 (isiD2 T U) f) := by
  have pt : PE X (.Name x p2) (tC (.ty T)) := ⟨fun _ _ _ H _ I h => ld_blt I hgt hmt hvt ⟨.ty T, H, I, rfl, h⟩ hnt hdt⟩
  have pu : PE X (.Name y p3) (tC (.ty U)) := ⟨fun _ _ _ H _ I h => ld_blt I hgu hmu hvu ⟨.ty U, H, I, rfl, h⟩ hnu hdu⟩
  refine PEimp (pe_callB call_isiT hg hm (by decide +kernel) (pa_cons he (pa_cons (pe_tup (pa_cons pt (pa_cons pu pa_nil hs4) hs3)) pa_nil hs2) hs) (he := hs) (hpl := hpl)) ?_
  rintro σ H Q ⟨ρ, G, b, d, b', rs, fz, ob, e, q⟩
  obtain ⟨x, b1, e1, e2⟩ := M.bind_some e
  refine ⟨ρ, G, b, x, b1, rs, fz, ob, e1, fun v G1 H1 n1 r => ?_⟩
  unfold isiD2 at e2
  cases et : tyD x with
  | none => rw [et] at e2; cases e2
  | some t =>
    rw [et] at e2
    cases e2
    refine ⟨by show 2 ≤ 16777216; omega, fun tp hp => ?_⟩
    have n2 := Nxt.newF (o := .tup [V.ty T, V.ty U]) n1.fz n1.bag hp
    refine ⟨v, tp, [V.ty T, V.ty U], .type t, [.type T, .type U], _, rfl, upd_same, .cons (.ty T) (.cons (.ty U) .nil), tyD_of (r.mono n2.gg) n2.fz et, ?_, q _ _ _ (n1.trans n2) (.bl _)⟩
    have k1 := kit_isT (K := X.K) t (tyD_mem et) T hT
    have k2 := kit_isT (K := X.K) t (tyD_mem et) U hU
    refine kitAny_cons k1 (fun h1 => ?_) fun h1 => by rw [h1]; rfl
    rw [h1, Bool.false_or]
    exact kitAny_cons k2 (fun h2 => by rw [h2]; exact kitAny_nil) fun h2 => h2
end
end DL
set_option Elab.async false
set_option maxRecDepth 100000
set_option autoImplicit false
set_option linter.unusedVariables false
set_option maxHeartbeats 4000000
namespace DL
open PySem L2
variable [TAB : TabList]
variable [EFF : Eff]
set_option linter.unusedSectionVars false
section
variable {X : Cx} {a b : Expr} {f g : Env → M D} {pos : Pos}
def extM (j : Nat) (ms : List Nat) (f : Env → M (List D)) (ρ : Env2) : M Out := M.bind (f (view ms ρ)) fun ds => match (keepIf (ds.all D.flat) ms ρ)[j]? with
  | some (some (.own xs)) => M.guard (decide (xs.length + ds.length ≤ sizeLine)) (M.ret (.nx ((keepIf (ds.all D.flat) ms ρ).set j (some (.own (xs ++ ds))))))
  | _ => M.fail
end
end DL
set_option Elab.async false
set_option maxRecDepth 100000
set_option autoImplicit false
set_option linter.unusedVariables false
set_option maxHeartbeats 4000000
namespace DL
open PySem L2
variable [TAB : TabList]
variable [EFF : Eff]
set_option linter.unusedSectionVars false
def keyD : D → Option Key
  | .int i => some (.inl i)
  | .str x => some (.inr ⟨x.toArray⟩)
  | _ => none
theorem keyD_of {K : PySem.W.Frag} {G : Hp} {v : V} {d : D} {k : Key} (r : Rp K G v d) (h : keyD d = some k) : v = kV k := by
  cases r <;> cases h <;> rfl
section
variable {κ α β : Type} [DecidableEq κ]
def getK (ks : List κ) (ds : List α) (k : κ) : Option α := ((ks.zip ds).find? fun p => decide (p.1 = k)).map (·.2)
def repK (ks : List κ) (ds : List α) (k : κ) (d : α) : List α := (ks.zip ds).map fun p => if p.1 = k then d else p.2
def setKs (ks : List κ) (k : κ) : List κ := if k ∈ ks then ks else ks ++ [k]
def setVs (ks : List κ) (ds : List α) (k : κ) (d : α) : List α := if k ∈ ks then repK ks ds k d else ds ++ [d]
end
theorem valV_zip {κ : Type} [DecidableEq κ] (ks : List κ) (vs : List V) (k : κ) : valV (ks.zip vs) k = getK ks vs k := rfl
theorem RpL.getK {κ : Type} [DecidableEq κ] {K : PySem.W.Frag} {G : Hp} (k : κ) : ∀ {ks : List κ} {vs : List V} {ds : List D}, RpL K G vs ds → (∀ d, DL.getK ks ds k = some d → ∃ v, DL.getK ks vs k = some v ∧ Rp K G v d) ∧ (DL.getK ks ds k = none → DL.getK ks vs k = none)
  | [], _, _, _ => ⟨fun d h => (by cases h), fun _ => rfl⟩
  | a :: ks, _, _, .nil => ⟨fun d h => (by cases h), fun _ => rfl⟩
  | a :: ks, _, _, .cons (v := v) (vs := vs) (d := d) (ds := ds) r rl => by
    have ih := RpL.getK k (ks := ks) rl
    unfold DL.getK at ih ⊢
    rw [List.zip_cons_cons, List.zip_cons_cons, List.find?_cons, List.find?_cons]
    by_cases e : a = k
    · simp only [e, decide_true]
      exact ⟨fun d' h => by cases h; exact ⟨v, rfl, r⟩, fun h => by cases h⟩
    · simp only [e, decide_false]
      exact ih
theorem RpL.setVs {κ : Type} [DecidableEq κ] {K : PySem.W.Frag} {G : Hp} {v : V} {d : D} (r : Rp K G v d) {ks : List κ} {k : κ} {vs : List V} {ds : List D} (rl : RpL K G vs ds) : RpL K G (DL.setVs ks vs k v) (DL.setVs ks ds k d) := by
  unfold DL.setVs
  by_cases e : k ∈ ks
  · rw [if_pos e, if_pos e]
    clear e
    unfold repK
    induction ks generalizing vs ds with
    | nil => exact .nil
    | cons a ks ih =>
      cases rl with
      | nil => exact .nil
      | cons r1 r2 =>
        rw [List.zip_cons_cons, List.zip_cons_cons, List.map_cons, List.map_cons]
        refine .cons ?_ (ih r2)
        by_cases e : a = k
        · simp only [e, if_pos]; exact r
        · simp only [e, if_neg, if_false]; exact r1
  · rw [if_neg e, if_neg e]
    exact rl.append (.cons r .nil)
section
variable {X : Cx} {a b : Expr} {f g : Env → M D} {pos : Pos}
def rDIn (neg : Bool) : R2 := fun y x H Q => ∃ p o, x = .ref p ∧ DGet H p y o ∧ Q (.bl (if neg then !o.isSome else o.isSome)) H
theorem op_din (hu : X.A.units + 1 < cLine) : OpR X (compareOp .In) (rDIn false) := by
  intro pins s σ H y x u v Q I ry rx h
  obtain ⟨p, o, rfl, g, q⟩ := h
  obtain rfl : v = Value.ref p := rx
  exact _root_.L2.d_in hu I g ry fun s3 I3 => ⟨.bl o.isSome, H, I3, rfl, q⟩
theorem op_dnotin (hu : X.A.units + 1 < cLine) : OpR X (compareOp .NotIn) (rDIn true) := by
  intro pins s σ H y x u v Q I ry rx h
  obtain ⟨p, o, rfl, g, q⟩ := h
  obtain rfl : v = Value.ref p := rx
  exact _root_.L2.d_notIn hu I g ry fun s3 I3 => ⟨.bl (!o.isSome), H, I3, rfl, q⟩
def inF (neg : Bool) : D → D → M D
  | x, .dct ks ds => match keyD x with
    | some k => M.ret (.bl (if neg then !(getK ks ds k).isSome else (getK ks ds k).isSome))
    | none => M.fail
  | x, y => inE neg x y
theorem snd_inF (neg : Bool) : SndR X.K (fun x y H Q => ((∃ (c : Nat) (z : Str), x = .str ⟨#[c]⟩ ∧ y = .str z ∧ Q (.bl (if neg then !decide (c ∈ z.cps.toList) else decide (c ∈ z.cps.toList))) H) ∨ rIn X.K neg x y H Q) ∨ rDIn neg x y H Q) (inF neg) := by
  intro G H b x y dx dy d b' Q rx ry f o e q
  cases ry with
  | @dct p ks vs ds hg hl rl =>
    have e : (match keyD dx with | some k => M.ret (D.bl (if neg then !(getK ks ds k).isSome else (getK ks ds k).isSome)) | none => M.fail) b = some (d, b') := e
    cases ek : keyD dx with
    | none => rw [ek] at e; cases e
    | some k =>
      rw [ek] at e
      cases e
      have hk := keyD_of rx ek
      subst hk
      refine .inr ⟨p, _, rfl, .inl ⟨_, k, SameF.rd f hg, rfl, rfl⟩, ?_⟩
      obtain ⟨k1, k2⟩ := RpL.getK k (ks := ks) rl
      rw [valV_zip]
      have es : (getK ks vs k).isSome = (getK ks ds k).isSome := by
        cases ed : getK ks ds k with
        | none => rw [k2 ed]; rfl
        | some z => obtain ⟨u, h1, _⟩ := k1 z ed; rw [h1]; rfl
      rw [es]
      exact q _ G H (Nxt.refl f o) (.bl _)
  | non => exact .inl (snd_inE neg G H b x _ dx _ d b' Q rx .non f o e q)
  | bl k => exact .inl (snd_inE neg G H b x _ dx _ d b' Q rx (.bl k) f o e q)
  | int k => exact .inl (snd_inE neg G H b x _ dx _ d b' Q rx (.int k) f o e q)
  | str k => exact .inl (snd_inE neg G H b x _ dx _ d b' Q rx (.str k) f o e q)
  | lst h1 h2 => exact .inl (snd_inE neg G H b x _ dx _ d b' Q rx (.lst h1 h2) f o e q)
  | tup h1 h2 => exact .inl (snd_inE neg G H b x _ dx _ d b' Q rx (.tup h1 h2) f o e q)
  | dcT h1 h2 h3 => exact .inl (snd_inE neg G H b x _ dx _ d b' Q rx (.dcT h1 h2 h3) f o e q)
  | obj h1 h2 h3 h4 => exact .inl (snd_inE neg G H b x _ dx _ d b' Q rx (.obj h1 h2 h3 h4) f o e q)
  | bag p => exact .inl (snd_inE neg G H b x _ dx _ d b' Q rx (.bag p) f o e q)
  | scr h => exact .inl (snd_inE neg G H b x _ dx _ d b' Q rx (.scr h) f o e q)
  | exc h1 h2 => exact .inl (snd_inE neg G H b x _ dx _ d b' Q rx (.exc h1 h2) f o e q)
  | clo h1 h2 h3 h4 => exact .inl (snd_inE neg G H b x _ dx _ d b' Q rx (.clo h1 h2 h3 h4) f o e q)
  | cel h1 => exact .inl (snd_inE neg G H b x _ dx _ d b' Q rx (.cel h1) f o e q)
theorem t_inF (hu : X.A.units + 64 < cLine) (ha : DE X a f) (hb : DE X b g) (hm : behindInMarks .In b = false := by rfl) : DT X (.Compare a [.In] [b] pos) (t2 (inF false) f g) := t_cmp (op_inE.or (op_din (by omega))) (snd_inF false) ha hb hm
theorem d_inF (hu : X.A.units + 64 < cLine) (ha : DE X a f) (hb : DE X b g) (hm : behindInMarks .In b = false := by rfl) : DE X (.Compare a [.In] [b] pos) (e2 (inF false) f g) := d_cmp (op_inE.or (op_din (by omega))) (snd_inF false) ha hb hm
theorem t_notInF (hu : X.A.units + 64 < cLine) (ha : DE X a f) (hb : DE X b g) (hm : behindInMarks .NotIn b = false := by rfl) : DT X (.Compare a [.NotIn] [b] pos) (t2 (inF true) f g) := t_cmp (op_notInE.or (op_dnotin (by omega))) (snd_inF true) ha hb hm
def rDIx : R2 := fun x y H Q => ∃ p v, x = .ref p ∧ DGet H p y (some v) ∧ Q v H
theorem ix_dict (hu : X.A.units + 1 < cLine) : IxR X rDIx := by
  intro value slice pins s σ H x y o i Q I rx ry h hs
  obtain ⟨p, v, rfl, g, q⟩ := h
  obtain rfl : o = Value.ref p := rx
  have hT := dict_typeIs I g
  have h₂ := d_getItem (A := X.A) (E := X.xe) (Q := fun r s3 => EP X pins σ Q r s3) hu I g ry fun w' s3 I3 rw' => ⟨v, H, I3, rw', q⟩
  unfold PyProof.Rows.subscriptTail
  refine wpAny_bind ?_
  rw [getitemInPython_of_ne hT.not_modules]
  refine wpAny_bind (wpAny_specialOf hT PySem.F.slot_dict_getitem.lookup ?_)
  have fin : wpAny (model X.prog X.w) X.A (subscripted slice false (.ref p) i) (fun r s₃ => wpAny (model X.prog X.w) X.A (letTemporaryGo value (.ref p) r >>= fun _ => pure r) (EP X pins σ Q) X.xe s₃) X.xe s := by
    rw [hs]
    exact wpAny_operating (wpAny_mono h₂ (fun r s₃ h₃ => wpAny_bind (wpAny_letTemporaryGo (wpAny_pure h₃))) fun _ _ x => x)
  first
    | exact wpAny_pure (wpAny_bind fin)
    | exact wpAny_bind (wpAny_pure (wpAny_bind fin))
    | exact wpAny_bind fin
def ixF : D → D → M D
  | .dct ks ds, y => match keyD y with
    | some k => M.of (getK ks ds k)
    | none => M.fail
  | x, y => ixD x y
theorem snd_ixF : SndR X.K (fun x y H Q => rIx X.K x y H Q ∨ rDIx x y H Q) ixF := by
  intro G H b x y dx dy d b' Q rx ry f o e q
  cases rx with
  | @dct p ks vs ds hg hl rl =>
    have e : (match keyD dy with | some k => M.of (getK ks ds k) | none => M.fail) b = some (d, b') := e
    cases ek : keyD dy with
    | none => rw [ek] at e; cases e
    | some k =>
      rw [ek] at e
      obtain ⟨e1, rfl⟩ := M.of_some' e
      have hk := keyD_of ry ek
      subst hk
      obtain ⟨k1, _⟩ := RpL.getK k (ks := ks) rl
      obtain ⟨v, h1, h2⟩ := k1 d e1
      refine .inr ⟨p, v, rfl, .inl ⟨_, k, SameF.rd f hg, rfl, ?_⟩, q _ G H (Nxt.refl f o) h2⟩
      rw [valV_zip, h1]
  | non => exact .inl (snd_ix G H b _ y _ dy d b' Q .non ry f o e q)
  | bl k => exact .inl (snd_ix G H b _ y _ dy d b' Q (.bl k) ry f o e q)
  | int k => exact .inl (snd_ix G H b _ y _ dy d b' Q (.int k) ry f o e q)
  | str k => exact .inl (snd_ix G H b _ y _ dy d b' Q (.str k) ry f o e q)
  | lst h1 h2 => exact .inl (snd_ix G H b _ y _ dy d b' Q (.lst h1 h2) ry f o e q)
  | tup h1 h2 => exact .inl (snd_ix G H b _ y _ dy d b' Q (.tup h1 h2) ry f o e q)
  | dcT h1 h2 h3 => exact .inl (snd_ix G H b _ y _ dy d b' Q (.dcT h1 h2 h3) ry f o e q)
  | obj h1 h2 h3 h4 => exact .inl (snd_ix G H b _ y _ dy d b' Q (.obj h1 h2 h3 h4) ry f o e q)
  | bag p => exact .inl (snd_ix G H b _ y _ dy d b' Q (.bag p) ry f o e q)
  | scr h => exact .inl (snd_ix G H b _ y _ dy d b' Q (.scr h) ry f o e q)
  | exc h1 h2 => exact .inl (snd_ix G H b _ y _ dy d b' Q (.exc h1 h2) ry f o e q)
  | clo h1 h2 h3 h4 => exact .inl (snd_ix G H b _ y _ dy d b' Q (.clo h1 h2 h3 h4) ry f o e q)
  | cel h1 => exact .inl (snd_ix G H b _ y _ dy d b' Q (.cel h1) ry f o e q)
theorem d_ixF (hu : X.A.units + 64 < cLine) (ha : DE X a f) (hb : DE X b g) (hp : PlainIx b := by exact fun _ _ => rfl) : DE X (.Subscript a b pos) (e2 ixF f g) := d_ix0 (ix_seq.or (ix_dict (by omega))) snd_ixF ha hb hp
def rLenK : List V → Hp → VK → Prop := fun xs H Q => ∃ p kvs, xs = [V.ref p] ∧ Rd H p (.dK kvs) ∧ Q (.int kvs.length) H
def rLenTR : List V → Hp → VK → Prop := fun xs H Q => ∃ p kvs, xs = [V.ref p] ∧ Rd H p (.dT kvs) ∧ Q (.int kvs.length) H
theorem call_lenK {X : Cx} : CallR X (.builtin "len") rLenK := by
  rintro pins s σ H xs us Q I r ⟨p, kvs, rfl, hp, q⟩
  obtain ⟨u, rfl, ru⟩ := vals1 r
  cases ru
  exact L2.d_len I hp fun t s2 I2 => ⟨.int kvs.length, H, I2, ⟨t, rfl⟩, q⟩
theorem call_lenTR {X : Cx} : CallR X (.builtin "len") rLenTR := by
  rintro pins s σ H xs us Q I r ⟨p, kvs, rfl, hp, q⟩
  obtain ⟨u, rfl, ru⟩ := vals1 r
  cases ru
  obtain ⟨z, hd, ys, rel, dd⟩ := dt_rd I.hok hp
  have hl : kvs.length = ys.length := Paired.length rel
  refine call_len_dictH hd dd (by have := sizeLine_eq; omega) ?_
  rw [← hl]
  exact ⟨.int (kvs.length : Nat), H, I.tok _, ⟨_, rfl⟩, q⟩
def lenG : List D → M D
  | [.dct ks ds] => M.ret (.int ks.length)
  | [.dcT ks ds] => M.ret (.int ks.length)
  | xs => lenF xs
theorem snd_lenG : SndC X.K (fun xs H Q => (∃ x n, xs = [x] ∧ LenV X.K x H n ∧ Q (.int n) H) ∨ (rLenK xs H Q ∨ rLenTR xs H Q)) lenG := by
  intro G H b vs ds d b' Q r fz ob e q
  unfold lenG at e
  split at e
  · obtain ⟨v, rfl, r1⟩ := r.one
    cases r1 with
    | @dct p ks vs ds hg hl rl =>
      cases e
      refine .inr (.inl ⟨p, _, rfl, SameF.rd fz hg, ?_⟩)
      rw [List.length_zip, ← hl, Nat.min_self]
      exact q _ G H (Nxt.refl fz ob) (.int _)
  · obtain ⟨v, rfl, r1⟩ := r.one
    cases r1 with
    | @dcT p ks vs ds hg hl rl =>
      cases e
      refine .inr (.inr ⟨p, _, rfl, SameF.rd fz hg, ?_⟩)
      rw [List.length_zip, ← hl, Nat.min_self]
      exact q _ G H (Nxt.refl fz ob) (.int _)
  · exact .inl (snd_len G H b vs _ d b' Q r fz ob e q)
theorem d_lenG {e : Expr} {fa : Env → M (List D)} {p : Pos} (hg : Gl X "len") (hm : X.mg "len" = none) (ha : DA X [e] fa) (he : starEach [e] X.env = (false, eval e X.env) :: starEach [] X.env := by rfl) : DE X (.Call (.Name "len" p) [e] [] pos) (eCall lenG fa) :=
  d_callB (call_len.or (call_lenK.or call_lenTR)) snd_lenG hg hm (by decide +kernel) ha (he := he)
end
theorem OwL.append {K : PySem.W.Frag} {G H : Hp} : ∀ {vs ws : List V} {xs ys : List O} {fp fq : List Addr}, OwL K G H vs xs fp → OwL K G H ws ys fq → OwL K G H (vs ++ ws) (xs ++ ys) (fp ++ fq)
  | _, _, _, _, _, _, .nil, h => h
  | _, _, _, _, _, _, .cons a b, h => by
    rw [List.append_assoc]
    exact .cons a (OwL.append b h)
theorem OwL.setVs {κ : Type} [DecidableEq κ] {K : PySem.W.Frag} {G H : Hp} {v : V} {d : D} (r : Rp K G v d) {ks : List κ} {k : κ} {vs : List V} {os : List O} {fp : List Addr} (rl : OwL K G H vs os fp) : ∃ fq, OwL K G H (DL.setVs ks vs k v) (DL.setVs ks os k (.v d)) fq ∧ fq.Sublist fp := by
  unfold DL.setVs
  by_cases e : k ∈ ks
  · rw [if_pos e, if_pos e]
    clear e
    unfold repK
    induction ks generalizing vs os fp with
    | nil => exact ⟨[], .nil, List.nil_sublist _⟩
    | cons a ks ih =>
      cases rl with
      | nil => exact ⟨[], .nil, List.nil_sublist _⟩
      | @cons v1 vs1 x1 xs1 f1 f2 r1 r2 =>
        obtain ⟨fq, h1, h2⟩ := ih r2
        rw [List.zip_cons_cons, List.zip_cons_cons, List.map_cons, List.map_cons]
        by_cases e : a = k
        · simp only [e, if_pos]
          exact ⟨[] ++ fq, .cons (.v r) h1, by rw [List.nil_append]; exact h2.trans (List.sublist_append_right _ _)⟩
        · simp only [e, if_false]
          exact ⟨f1 ++ fq, .cons r1 h1, List.Sublist.append (List.Sublist.refl _) h2⟩
  · rw [if_neg e, if_neg e]
    refine ⟨fp ++ ([] ++ []), rl.append (.cons (.v r) .nil), by simp⟩
section
variable {X : Cx} {a b : Expr} {f g : Env → M D} {pos : Pos}
end
end DL
set_option Elab.async false
set_option maxRecDepth 100000
set_option autoImplicit false
set_option linter.unusedVariables false
set_option maxHeartbeats 4000000
namespace DL
open PySem L2
variable [TAB : TabList]
variable [EFF : Eff]
set_option linter.unusedSectionVars false
mutual
def O.fl : O → Bool
  | .v d => d.flat
  | .l xs => O.fls xs
  | .k _ xs => O.fls xs
  | .t _ xs => O.fls xs
  | .u _ => false
def O.fls : List O → Bool
  | [] => true
  | x :: r => x.fl && O.fls r
end
mutual
theorem Ow.flat_any {K : PySem.W.Frag} {G G' H : Hp} : ∀ {v : V} {o : O} {fp : List Addr}, Ow K G H v o fp → o.fl = true → Ow K G' H v o fp
  | _, _, _, .v r, h => .v (r.flat_any h)
  | _, _, _, .l hp r, h => .l hp (OwL.flat_any r h)
  | _, _, _, .k hp hl r, h => .k hp hl (OwL.flat_any r h)
  | _, _, _, .t hp hl r, h => .t hp hl (OwL.flat_any r h)
  | _, _, _, .u _ _, h => by cases h
theorem OwL.flat_any {K : PySem.W.Frag} {G G' H : Hp} : ∀ {vs : List V} {os : List O} {fp : List Addr}, OwL K G H vs os fp → O.fls os = true → OwL K G' H vs os fp
  | _, _, _, .nil, _ => .nil
  | _, _, _, .cons a b, h => by
    have h : (_ && _) = true := h
    rw [Bool.and_eq_true] at h
    exact .cons (Ow.flat_any a h.1) (OwL.flat_any b h.2)
end
section
variable {X : Cx} {pos : Pos}
end
theorem OwL.two {K : PySem.W.Frag} {G H : Hp} {v1 v2 : V} {o1 o2 : O} {fq : List Addr} (r : OwL K G H [v1, v2] [o1, o2] fq) : ∃ f1 f2, Ow K G H v1 o1 f1 ∧ Ow K G H v2 o2 f2 ∧ fq = f1 ++ f2 := by
  cases r with
  | @cons _ _ _ _ f1 f2 a b =>
    cases b with
    | @cons _ _ _ _ f3 f4 c d =>
      cases d
      exact ⟨f1, f3, a, c, by rw [List.append_nil]⟩
section
variable {K : PySem.W.Frag} {E : En} {σ : L2.St} {ρ : Env2} {G H : Hp} {b : Bs}
end
section
variable {X : Cx} {pos : Pos}
end
end DL
set_option Elab.async false
set_option maxRecDepth 100000
set_option autoImplicit false
set_option linter.unusedVariables false
set_option maxHeartbeats 4000000
namespace DL
open PySem L2
variable [TAB : TabList]
variable [EFF : Eff]
set_option linter.unusedSectionVars false
section
variable {X : Cx} {pos : Pos}
end
end DL
set_option Elab.async false
set_option maxRecDepth 100000
set_option autoImplicit false
set_option linter.unusedVariables false
set_option maxHeartbeats 4000000
namespace DL
open PySem L2
variable [TAB : TabList]
variable [EFF : Eff]
set_option linter.unusedSectionVars false
section
variable {X : Cx} {pos : Pos}
end
end DL
set_option Elab.async false
set_option maxRecDepth 100000
set_option autoImplicit false
set_option linter.unusedVariables false
set_option maxHeartbeats 4000000
namespace DL
open PySem L2
theorem ixD_l (x : List D) (i : Int) : ixD (.lst x) (.int i) = M.of (atI x i) := rfl
theorem ixD_t (x : List D) (i : Int) : ixD (.tup x) (.int i) = M.of (atI x i) := rfl
theorem ofSome {α : Type} (a : α) : M.of (some a) = M.ret a := rfl
theorem atI_0 {α : Type} (a : α) (l : List α) : atI (a :: l) 0 = some a := atI_nat (j := 0) rfl
theorem atI_1 {α : Type} (a b : α) (l : List α) : atI (a :: b :: l) 1 = some b := atI_nat (j := 1) rfl
theorem atI_2 {α : Type} (a b c : α) (l : List α) : atI (a :: b :: c :: l) 2 = some c := atI_nat (j := 2) rfl
theorem atI_3 {α : Type} (a b c d : α) (l : List α) : atI (a :: b :: c :: d :: l) 3 = some d := atI_nat (j := 3) rfl
theorem atI_4 {α : Type} (a b c d e : α) (l : List α) : atI (a :: b :: c :: d :: e :: l) 4 = some e := atI_nat (j := 4) rfl
theorem atI_neg {α : Type} {xs : List α} {i : Int} (d : α) (h0 : i < 0) (h1 : -(xs.length : Int) ≤ i) : atI xs i = some (xs.getD (i + xs.length).toNat d) := by
  have hl : (i + xs.length).toNat < xs.length := by omega
  unfold atI
  have e : ixN xs.length i = some (i + xs.length).toNat := by
    unfold ixN
    rw [if_neg (by omega), if_pos h1]
  rw [e]
  simp [List.getD, List.getElem?_eq_getElem hl]
theorem atI_app {α : Type} (xs : List α) (v : α) : atI (xs ++ [v]) (-1) = some v := atI_last xs v
theorem ixD_strn {x : List Nat} {i : Int} (hz : x.length ≤ 16777216) (h0 : i < 0) (h1 : -(x.length : Int) ≤ i) : ixD (.str x) (.int i) = M.ret (.str [x.getD (i + x.length).toNat 0]) := by
  show M.guard (szS x.length) (M.of ((atI x i).map fun c => D.str [c])) = _
  rw [M.guard_of (show szS x.length = true from decide_eq_true hz), atI_neg 0 h0 h1]
  rfl
theorem ixD_str1 {x : List Nat} (hz : x.length ≤ 16777216) (h : 0 < x.length) : ixD (.str x) (.int (-1)) = M.ret (.str [x.getD (x.length - 1) 0]) := by
  rw [ixD_strn hz (by omega) (by omega)]
  congr 4
  omega
theorem intF_str {x : List Nat} (h : NumText.AllDigits x) (h1 : x ≠ []) (h2 : x.length ≤ 640) : intF [.str x] = M.ret (.int (NumText.digitsVal x : Nat)) := by
  show (match PySem.intText? ⟨x.toArray⟩ with
    | some n => M.guard (decide (x.length ≤ 640)) (M.ret (D.int n))
    | none => M.fail) = _
  rw [PySem.intText_digits (x := ⟨x.toArray⟩) (by simpa using h) (by simpa using h1) (by rw [szStr]; omega)]
  exact M.guard_of (decide_eq_true h2)
theorem intF_dig {c : Nat} (h0 : 48 ≤ c) (h1 : c ≤ 51) : intF [.str [c]] = M.ret (.int ((c : Int) - 48)) := by
  rw [intF_str (fun d hd => by simp at hd; subst hd; omega) (by simp) (by simp)]
  simp [NumText.digitsVal]
  congr 2
  omega
theorem mulD_intl {i j : Int} (h1 : -18446744073709551616 < i) (h2 : i < 18446744073709551616) : mulD (.int i) (.int j) = M.ret (.int (i * j)) := mulD_int (okM_l h1 h2)
theorem mulD_intr {i j : Int} (h1 : -18446744073709551616 < j) (h2 : j < 18446744073709551616) : mulD (.int i) (.int j) = M.ret (.int (i * j)) := mulD_int (okM_r h1 h2)
theorem slotD_obj (c i : Nat) (fs : List D) : slotD c i (.obj c fs) = M.of fs[i]? := by
  show M.guard (c == c) _ = _
  rw [show (c == c) = true by simp]
  rfl
theorem propD_obj (c : Nat) (F : List D → M D) (fs : List D) : propD c F (.obj c fs) = F [.obj c fs] := by
  unfold propD isC
  simp
theorem propN_obj (c : Nat) (F : List D → M (List D)) (fs : List D) : propN c F (.obj c fs) = F [.obj c fs] := by
  unfold propN isC
  simp
theorem isC_obj {α : Type} (c : Nat) (fs : List D) (m : M α) : M.guard (isC c (.obj c fs)) m = m := by
  unfold isC
  simp
theorem get0 {α : Type} (a : α) (l : List α) : (a :: l)[0]? = some a := rfl
theorem getS {α : Type} (a : α) (l : List α) (i : Nat) : (a :: l)[i + 1]? = l[i]? := rfl
theorem get1 {α : Type} (a : α) (l : List α) : (a :: l)[1]? = l[0]? := rfl
theorem get2 {α : Type} (a : α) (l : List α) : (a :: l)[2]? = l[1]? := rfl
theorem get3 {α : Type} (a : α) (l : List α) : (a :: l)[3]? = l[2]? := rfl
theorem bName_eq (i : Nat) (d : D) : bName i d = some [(i, d)] := rfl
theorem bTup_eq (n : Nat) (f : List D → Option (List (Nat × D))) (ds : List D) : bTup n f (.tup ds) = if ds.length = n then f ds else none := rfl
theorem bCons_eq (f : D → Option (List (Nat × D))) (g : List D → Option (List (Nat × D))) (d : D) (r : List D) : bCons f g (d :: r) = match f d, g r with
    | some l, some l' => some (l ++ l')
    | _, _ => none := rfl
theorem bNil_eq : bNil [] = some [] := rfl
theorem str01 (b : Bool) : strF [.int (if b = true then 1 else 0)] = M.ret (.str [if b = true then 49 else 48]) := by
  cases b
  · show M.guard _ _ = _
    rw [M.guard_of (by decide +kernel)]
    rfl
  · show M.guard _ _ = _
    rw [M.guard_of (by decide +kernel)]
    rfl
theorem isi_str_str (x : List Nat) : isiD "str" (.str x) = M.ret (.bl true) := rfl
theorem isi_int_int (x : Int) : isiD "int" (.int x) = M.ret (.bl true) := rfl
theorem isi_bool_int (x : Int) : isiD "bool" (.int x) = M.ret (.bl false) := rfl
theorem blsD_map {α : Type} (f : α → Bool) : ∀ xs : List α, blsD (xs.map fun a => D.bl (f a)) = some (xs.map f)
  | [] => rfl
  | a :: r => by
    show (blsD (r.map fun a => D.bl (f a))).map (f a :: ·) = _
    rw [blsD_map f r]; rfl
theorem loop_inv {bs : D → Option (List (Nat × D))} {body : Env2 → M Out} : ∀ {xs : List D} {I : Nat → Env2 → Prop} {ρ : Env2}, (∀ i x ρ, xs[i]? = some x → I i ρ → ∃ l ρ', bs x = some l ∧ (body (setAll2 ρ l) = M.ret (.nx ρ') ∨ body (setAll2 ρ l) = M.ret (.ct ρ')) ∧ I (i + 1) ρ') → I 0 ρ → ∃ ρ', loopM bs body xs ρ = M.ret (.nx ρ') ∧ I xs.length ρ'
  | [], I, ρ, _, h0 => ⟨ρ, rfl, h0⟩
  | x :: xs, I, ρ, h, h0 => by
    obtain ⟨l, ρ', e1, e2, h1⟩ := h 0 x ρ rfl h0
    obtain ⟨ρ2, e3, h2⟩ := loop_inv (xs := xs) (I := fun i => I (i + 1)) (ρ := ρ') (fun i y ρ hy hi => h (i + 1) y ρ (by simpa using hy) hi) h1
    refine ⟨ρ2, ?_, by simpa using h2⟩
    unfold loopM
    rw [e1]
    rcases e2 with e2 | e2 <;> (show M.bind _ _ = _; rw [e2, M.ret_bind]; exact e3)
theorem loop_invI {α : Type} {bs : D → Option (List (Nat × D))} {body : Env2 → M Out} {inj : α → D} {as : List α} {I : Nat → Env2 → Prop} {ρ : Env2} (h : ∀ i a ρ, as[i]? = some a → I i ρ → ∃ l ρ', bs (inj a) = some l ∧ (body (setAll2 ρ l) = M.ret (.nx ρ') ∨ body (setAll2 ρ l) = M.ret (.ct ρ')) ∧ I (i + 1) ρ') (h0 : I 0 ρ) : ∃ ρ', loopM bs body (as.map inj) ρ = M.ret (.nx ρ') ∧ I as.length ρ' := by
  have := loop_inv (xs := as.map inj) (I := I) (ρ := ρ) (bs := bs) (body := body) (fun i x ρ hx hi => by
    rw [List.getElem?_map] at hx
    cases e : as[i]? with
    | none => rw [e] at hx; cases hx
    | some a => rw [e] at hx; cases hx; exact h i a ρ e hi) h0
  simpa using this
theorem loop_bindI {α β : Type} {bs : D → Option (List (Nat × D))} {body : Env2 → M Out} {inj : α → D} {as : List α} (I : Nat → Env2 → Prop) {ρ : Env2} {κ : Out → M β} {R : M β} (h0 : I 0 ρ) (h : ∀ i a ρ, as[i]? = some a → I i ρ → ∃ l ρ', bs (inj a) = some l ∧ (body (setAll2 ρ l) = M.ret (.nx ρ') ∨ body (setAll2 ρ l) = M.ret (.ct ρ')) ∧ I (i + 1) ρ') (hk : ∀ ρ', I as.length ρ' → κ (.nx ρ') = R) : M.bind (loopM bs body (as.map inj) ρ) κ = R := by
  obtain ⟨ρ', e, h'⟩ := loop_invI h h0
  rw [e, M.ret_bind]
  exact hk ρ' h'
theorem range_at {n i k : Nat} (h : (List.range n)[i]? = some k) : i < n ∧ k = i := by
  obtain ⟨h2, h3⟩ := List.getElem?_eq_some_iff.mp h
  simp at h2 h3
  exact ⟨h2, h3.symm⟩
theorem loopM_nil (bs : D → Option (List (Nat × D))) (body : Env2 → M Out) (ρ : Env2) : loopM bs body [] ρ = M.ret (.nx ρ) := rfl
theorem loopM_cons (bs : D → Option (List (Nat × D))) (body : Env2 → M Out) (x : D) (xs : List D) (ρ : Env2) : loopM bs body (x :: xs) ρ = match bs x with
    | none => M.fail
    | some l => M.bind (body (setAll2 ρ l)) fun o => match o with
      | .nx ρ' => loopM bs body xs ρ'
      | .ct ρ' => loopM bs body xs ρ'
      | .bk ρ' => M.ret (.nx ρ')
      | .rt d => M.ret (.rt d)
      | .rn ys => M.ret (.rn ys) := rfl
theorem setAll2_cons (ρ : Env2) (i : Nat) (d : D) (r : List (Nat × D)) : setAll2 ρ ((i, d) :: r) = setAll2 (ρ.set i (some (.val d))) r := rfl
theorem setAll2_nil (ρ : Env2) : setAll2 ρ [] = ρ := rfl
theorem setAllD_cons (ρ : Env) (i : Nat) (d : D) (r : List (Nat × D)) : setAllD ρ ((i, d) :: r) = setAllD (ρ.set i (some d)) r := rfl
theorem setAllD_nil (ρ : Env) : setAllD ρ [] = ρ := rfl
theorem wipeD_cons (ρ : Env) (v : Nat) (vs : List Nat) : wipeD ρ (v :: vs) = (wipeD ρ vs).set v none := rfl
theorem wipeD_nil (ρ : Env) : wipeD ρ [] = ρ := rfl
end DL
set_option Elab.async false
set_option maxRecDepth 100000
set_option autoImplicit false
set_option linter.unusedVariables false
set_option maxHeartbeats 4000000
namespace DL
open PySem L2
def Tg {α : Type} (_ : α) : Type := PUnit
def Tg.mk {α : Type} (a : α) : Tg a := PUnit.unit
def bnd {α β : Type} (m : M α) (f : α → M β) (_ : Tg f := Tg.mk f) : M β := M.bind m f
def cnd {α : Type} (k : Bool) (a b : M α) (_ : Tg (a, b) := Tg.mk (a, b)) : M α := if k = true then a else b
section
variable {α β γ : Type}
theorem bnd_ret (a : α) (f : α → M β) (t : Tg f) : bnd (M.ret a) f t = f a := rfl
theorem bnd_assoc (m : M α) (f : α → M β) (g : β → M γ) (t : Tg f) (u : Tg g) : bnd (bnd m f t) g u = bnd m fun a => bnd (f a) g := M.bind_assoc m f g
theorem bnd_assoc' (m : M α) (f : α → M β) (g : β → M γ) (u : Tg g) : bnd (M.bind m f) g u = bnd m fun a => bnd (f a) g := M.bind_assoc m f g
theorem bnd_r (m : M α) (t : Tg (fun a => M.ret a)) : bnd m (fun a => M.ret a) t = m := M.bind_ret m
theorem cnd_dt {p : Prop} [Decidable p] (h : p) (a b : M α) (t : Tg (a, b)) : cnd (decide p) a b t = a := by
  unfold cnd
  rw [if_pos (decide_eq_true h)]
theorem cnd_df {p : Prop} [Decidable p] (h : ¬ p) (a b : M α) (t : Tg (a, b)) : cnd (decide p) a b t = b := by
  unfold cnd
  rw [if_neg (by simp [h])]
theorem cnd_t (a b : M α) (t : Tg (a, b)) : cnd true a b t = a := rfl
theorem cnd_f (a b : M α) (t : Tg (a, b)) : cnd false a b t = b := rfl
theorem cnd_bnd (k : Bool) (a b : M α) (t : Tg (a, b)) (f : α → M β) (u : Tg f) : bnd (cnd k a b t) f u = cnd k (bnd a f) (bnd b f) := by cases k <;> rfl
theorem bind_bnd (m : M α) (f : α → M β) : M.bind m f = bnd m f := rfl
theorem fail_bnd (f : α → M β) (t : Tg f) : bnd M.fail f t = M.fail := rfl
end
def seqK (F2 : Env2 → M Out) : Out → M Out
  | .nx ρ1 => F2 ρ1
  | o => M.ret o
def runK : Out → M D
  | .rt d => M.ret d
  | .rn xs => M.ret (.lst xs)
  | .nx _ => M.ret .non
  | _ => M.fail
def runKN : Out → M (List D)
  | .rn xs => M.ret xs
  | _ => M.fail
def lstK (xs : List D) : M (List D) := M.guard (szL xs) (M.ret xs)
def tupK (xs : List D) : M D := M.guard (szL xs) (M.ret (.tup xs))
def loopK (bs : D → Option (List (Nat × D))) (body : Env2 → M Out) (xs : List D) : Out → M Out
  | .nx ρ' => loopM bs body xs ρ'
  | .ct ρ' => loopM bs body xs ρ'
  | .bk ρ' => M.ret (.nx ρ')
  | .rt d => M.ret (.rt d)
  | .rn ys => M.ret (.rn ys)
def parK (i j : Nat) (ms : List Nat) (ρ : Env2) : List D → M Out
  | [d, e] => M.ret (.nx (((keepIf (d.flat && e.flat) ms ρ).set i (some (.val d))).set j (some (.val e))))
  | _ => M.fail
def unpK (ρ : Env2) : Option (List (Nat × D)) → M Out
  | some l => M.ret (.nx (setAll2 ρ l))
  | none => M.fail
def augK (f : D → D → M D) (i : Nat) (g : M D) (ρ : Env2) : Option (Option Slot) → M Out
  | some (some (.val x)) => bnd g fun y => bnd (f x y) fun z => M.guard (y.flat && z.flat) (M.ret (.nx (ρ.set i (some (.val z)))))
  | _ => M.fail
def selK (F2 : Env2 → M (List D)) (ρ : Env2) : Out → M (List D)
  | .nx ρ1 => M.guard (decide (selfOf ρ1 = selfOf ρ)) (F2 ρ1)
  | _ => M.fail
section
variable (ρ : Env) (ρ2 : Env2) (ms : List Nat)
theorem q_seq (F1 F2 : Env2 → M Out) : seqM F1 F2 ρ2 = bnd (F1 ρ2) (seqK F2) := by
  rfl
theorem q_seqK_nx (F2 : Env2 → M Out) (ρ1 : Env2) : seqK F2 (.nx ρ1) = F2 ρ1 := rfl
theorem q_seqK_rt (F2 : Env2 → M Out) (d : D) : seqK F2 (.rt d) = M.ret (.rt d) := rfl
theorem q_seqK_rn (F2 : Env2 → M Out) (d : List D) : seqK F2 (.rn d) = M.ret (.rn d) := rfl
theorem q_seqK_bk (F2 : Env2 → M Out) (d : Env2) : seqK F2 (.bk d) = M.ret (.bk d) := rfl
theorem q_seqK_ct (F2 : Env2 → M Out) (d : Env2) : seqK F2 (.ct d) = M.ret (.ct d) := rfl
theorem q_runD (m : Nat) (F : Env2 → M Out) (ds : List D) : runD m F ds = bnd (F (startD m ds)) runK := by
  rfl
theorem q_runN (m : Nat) (F : Env2 → M Out) (ds : List D) : runN m F ds = bnd (F (startD m ds)) runKN := by
  rfl
theorem q_runK_rt (d : D) : runK (.rt d) = M.ret d := rfl
theorem q_runK_rn (d : List D) : runK (.rn d) = M.ret (.lst d) := rfl
theorem q_runK_nx (d : Env2) : runK (.nx d) = M.ret .non := rfl
theorem q_runKN_rn (d : List D) : runKN (.rn d) = M.ret d := rfl
theorem q_set (i : Nat) (f : Env → M D) : setM i ms f ρ2 = bnd (f (view ms ρ2)) fun d => M.ret (.nx ((keepIf d.flat ms ρ2).set i (some (.val d)))) := rfl
theorem q_setN (i : Nat) (f : Env → M (List D)) : setNM i ms f ρ2 = bnd (f (view ms ρ2)) fun xs => M.ret (.nx ((keepIf (xs.all D.flat) ms ρ2).set i (some (.own xs)))) := rfl
theorem q_ret (f : Env → M D) : retM ms f ρ2 = bnd (f (view ms ρ2)) fun d => M.ret (.rt d) := rfl
theorem q_retN (f : Env → M (List D)) : retNM ms f ρ2 = bnd (f (view ms ρ2)) fun d => M.ret (.rn d) := rfl
theorem q_if (t : Env → M Bool) (F F2 : Env2 → M Out) : ifM ms t F F2 ρ2 = bnd (t (view ms ρ2)) fun k => cnd k (F ρ2) (F2 ρ2) := rfl
theorem q_unp (bs : D → Option (List (Nat × D))) (f : Env → M D) : unpM bs ms f ρ2 = bnd (f (view ms ρ2)) fun d => unpK (keepIf d.flat ms ρ2) (bs d) := by
  show M.bind _ _ = M.bind _ _
  congr 1
theorem q_unpK (l : List (Nat × D)) : unpK ρ2 (some l) = M.ret (.nx (setAll2 ρ2 l)) := rfl
theorem q_par (i j : Nat) (f : Env → M (List D)) : parM i j ms f ρ2 = bnd (f (view ms ρ2)) (parK i j ms ρ2) := by
  show M.bind _ _ = M.bind _ _
  congr 1
theorem q_parK (i j : Nat) (d e : D) : parK i j ms ρ2 [d, e] = M.ret (.nx (((keepIf (d.flat && e.flat) ms ρ2).set i (some (.val d))).set j (some (.val e)))) := rfl
theorem q_aug (f : D → D → M D) (i : Nat) (g : Env → M D) : augD f i ms g ρ2 = augK f i (g (view ms ρ2)) ρ2 ρ2[i]? := by
  show (match ρ2[i]? with | some (some (.val x)) => _ | _ => _) = _
  cases ρ2[i]? with
  | none => rfl
  | some o => cases o with
    | none => rfl
    | some s => cases s <;> rfl
theorem q_augK (f : D → D → M D) (i : Nat) (g : M D) (x : D) : augK f i g ρ2 (some (some (.val x))) = bnd g fun y => bnd (f x y) fun z => M.guard (y.flat && z.flat) (M.ret (.nx (ρ2.set i (some (.val z))))) := rfl
theorem q_addF_int (i j : Int) : addF (.int i) (.int j) = M.ret (.int (i + j)) := rfl
theorem q_addF_str {x y : List Nat} (h : x.length + y.length ≤ 16777216) : addF (.str x) (.str y) = M.ret (.str (x ++ y)) := M.guard_of (decide_eq_true h)
theorem q_guard {α : Type} (m : M α) : M.guard true m = m := rfl
theorem q_for (gi : Env → M (List D)) (bs : D → Option (List (Nat × D))) (body : Env2 → M Out) : forA ms gi bs body ρ2 = bnd (gi (view ms ρ2)) fun xs => loopM bs body xs (frz ms ρ2) := rfl
theorem q_forR (gi : Env → M (List D)) (bs : D → Option (List (Nat × D))) (body : Env2 → M Out) : forRM ms gi bs body ρ2 = bnd (gi (view ms ρ2)) fun xs => loopM bs body xs ρ2 := rfl
theorem q_loop1 {bs : D → Option (List (Nat × D))} {body : Env2 → M Out} {x : D} {xs : List D} {l : List (Nat × D)} (h : bs x = some l) : loopM bs body (x :: xs) ρ2 = bnd (body (setAll2 ρ2 l)) (loopK bs body xs) := by
  show (match bs x with | none => _ | some l => _) = _
  rw [h]
  rfl
theorem q_sNil : sNil ρ2 = M.ret (.nx ρ2) := rfl
theorem q_e2 (h : D → D → M D) (f g : Env → M D) : e2 h f g ρ = bnd (f ρ) fun x => bnd (g ρ) fun y => h x y := rfl
theorem q_t2 (h : D → D → M D) (f g : Env → M D) : t2 h f g ρ = bnd (f ρ) fun x => bnd (g ρ) fun y => bnd (h x y) asB := rfl
theorem q_e1 (h : D → M D) (f : Env → M D) : e1 h f ρ = bnd (f ρ) h := rfl
theorem q_cst (d : D) : cst d ρ = M.ret d := rfl
theorem q_aN : aN ρ = M.ret [] := rfl
theorem q_aC (f : Env → M D) (g : Env → M (List D)) : aC f g ρ = bnd (f ρ) fun x => bnd (g ρ) fun xs => M.ret (x :: xs) := rfl
theorem q_call (h : List D → M D) (f : Env → M (List D)) : eCall h f ρ = bnd (f ρ) h := rfl
theorem q_callN (h : List D → M (List D)) (f : Env → M (List D)) : nCall h f ρ = bnd (f ρ) h := rfl
theorem q_eN (f : Env → M (List D)) : eN f ρ = bnd (f ρ) fun xs => M.ret (.lst xs) := rfl
theorem q_nLst (f : Env → M (List D)) : nLst f ρ = bnd (f ρ) lstK := rfl
theorem q_lstK {xs : List D} (h : xs.length ≤ 16777216) : lstK xs = M.ret xs := M.guard_of (decide_eq_true h)
theorem q_eTup (f : Env → M (List D)) : eTup f ρ = bnd (f ρ) tupK := rfl
theorem q_tupK {xs : List D} (h : xs.length ≤ 16777216) : tupK xs = M.ret (.tup xs) := M.guard_of (decide_eq_true h)
theorem q_tVal (f : Env → M D) : tVal f ρ = bnd (f ρ) truD := rfl
theorem q_tNot (f : Env → M Bool) : tNotM f ρ = bnd (f ρ) fun k => M.ret (!k) := rfl
theorem q_tAnd (f g : Env → M Bool) : tAndM f g ρ = bnd (f ρ) fun k => cnd k (g ρ) (M.ret false) := rfl
theorem q_tOr (f g : Env → M Bool) : tOrM f g ρ = bnd (f ρ) fun k => cnd k (M.ret true) (g ρ) := rfl
theorem q_eAnd (f g : Env → M D) : eAnd f g ρ = bnd (f ρ) fun x => bnd (asB x) fun k => cnd k (g ρ) (M.ret (.bl false)) := rfl
theorem q_eNot (f : Env → M D) : eNot f ρ = bnd (f ρ) fun x => bnd (asB x) fun k => M.ret (.bl (!k)) := rfl
theorem q_eIf (t : Env → M Bool) (f g : Env → M D) : eIf t f g ρ = bnd (t ρ) fun k => cnd k (f ρ) (g ρ) := rfl
theorem q_iAny (f : Env → M D) : iAny f ρ = bnd (f ρ) itemsD := rfl
theorem q_iRg1 (f : Env → M (List D)) : iRg1 f ρ = bnd (f ρ) rng1 := rfl
theorem q_iRg2 (f : Env → M (List D)) : iRg2 f ρ = bnd (f ρ) rng2 := rfl
theorem q_nLc (vs : List Nat) (gi : Env → M (List D)) (bs : D → Option (List (Nat × D))) (c : Env → M Bool) (e : Env → M D) : nLc vs gi bs c e ρ = bnd (gi ρ) fun xs => bnd (compM bs c e (wipeD ρ vs) xs) lstK := rfl
theorem q_cT : cT ρ = M.ret true := rfl
theorem q_oN : oN ρ = M.ret none := rfl
theorem q_oS (f : Env → M D) : oS f ρ = bnd (f ρ) asI := rfl
theorem q_eSl (f : Env → M D) (fl fh : Env → M (Option Int)) : eSl f fl fh ρ = bnd (f ρ) fun x => bnd (fl ρ) fun l => bnd (fh ρ) fun h => slD l h x := rfl
theorem q_eChain (h h' : D → D → M D) (f g k : Env → M D) : eChain h h' f g k ρ = bnd (f ρ) fun x => bnd (g ρ) fun y => bnd (h x y) fun z => bnd (asB z) fun t => cnd t (bnd (k ρ) (h' y)) (M.ret (.bl false)) := rfl
theorem q_eMake (c : Nat) (F : List D → M (List D)) (fa : Env → M (List D)) : eMake c F fa ρ = bnd (fa ρ) fun ds => bnd (F ds) fun fs => M.ret (.obj c fs) := rfl
theorem q_eMeth (c : Nat) (F : List D → M D) (f : Env → M D) (fa : Env → M (List D)) : eMeth c F f fa ρ = bnd (f ρ) fun x => M.guard (isC c x) (bnd (fa ρ) fun ds => F (x :: ds)) := rfl
theorem q_n1M (h : D → M (List D)) (f : Env → M D) : n1M h f ρ = bnd (f ρ) h := rfl
theorem q_iSeq (F1 : Env2 → M Out) (F2 : Env2 → M (List D)) : iSeq F1 F2 ρ2 = bnd (F1 ρ2) (selK F2 ρ2) := by
  rfl
theorem q_selK (F2 : Env2 → M (List D)) (ρ1 : Env2) : selK F2 ρ2 (.nx ρ1) = M.guard (decide (selfOf ρ1 = selfOf ρ2)) (F2 ρ1) := rfl
theorem q_self (x : Addr) (r : Env2) : selfOf (some (.val (.bag x)) :: r) = some x := rfl
end
def extK (ρ : Env2) (j : Nat) (ds : List D) : Option (Option Slot) → M Out
  | some (some (.own xs)) => M.guard (decide (xs.length + ds.length ≤ sizeLine)) (M.ret (.nx (ρ.set j (some (.own (xs ++ ds))))))
  | _ => M.fail
theorem q_ext (ρ2 : Env2) (ms : List Nat) (j : Nat) (f : Env → M (List D)) : extM j ms f ρ2 = bnd (f (view ms ρ2)) fun ds => extK (keepIf (ds.all D.flat) ms ρ2) j ds (keepIf (ds.all D.flat) ms ρ2)[j]? := by
  show M.bind _ _ = M.bind _ _
  congr 1
theorem q_extK {ρ2 : Env2} {j : Nat} {ds xs : List D} (h : xs.length + ds.length ≤ 16777216) : extK ρ2 j ds (some (some (.own xs))) = M.ret (.nx (ρ2.set j (some (.own (xs ++ ds))))) := M.guard_of (decide_eq_true h)
theorem q_inE (c : Nat) (z : List Nat) : inE false (.str [c]) (.str z) = M.ret (.bl (decide (c ∈ z))) := rfl
theorem q_notInE (c : Nat) (z : List Nat) : inE true (.str [c]) (.str z) = M.ret (.bl (!decide (c ∈ z))) := rfl
theorem q_is_non : isD false .non .non = M.ret (.bl true) := rfl
theorem q_is_str (x : List Nat) : isD false (.str x) .non = M.ret (.bl false) := rfl
theorem q_is_int (x : Int) : isD false (.int x) .non = M.ret (.bl false) := rfl
theorem q_is_tup (x : List D) : isD false (.tup x) .non = M.ret (.bl false) := rfl
theorem q_is_lst (x : List D) : isD false (.lst x) .non = M.ret (.bl false) := rfl
theorem q_isnt_non : isD true .non .non = M.ret (.bl false) := rfl
theorem q_isnt_str (x : List Nat) : isD true (.str x) .non = M.ret (.bl true) := rfl
theorem q_isnt_int (x : Int) : isD true (.int x) .non = M.ret (.bl true) := rfl
theorem q_isnt_tup (x : List D) : isD true (.tup x) .non = M.ret (.bl true) := rfl
theorem q_isnt_lst (x : List D) : isD true (.lst x) .non = M.ret (.bl true) := rfl
theorem q_list_l (x : List D) : listF [.lst x] = M.ret x := rfl
theorem q_list_t (x : List D) : listF [.tup x] = M.ret x := rfl
theorem q_max2 (i j : Int) : maxF [.int i, .int j] = M.ret (.int (maxZ i j)) := rfl
theorem q_sum (is : List Int) : sumF [.lst (is.map D.int)] = M.ret (.int is.sum) := by
  show (match intsD (is.map D.int) with | some is => M.ret (D.int is.sum) | none => M.fail) = _
  rw [intsD_map]
theorem q_ixF_s (x : List Nat) (y : D) : ixF (.str x) y = ixD (.str x) y := rfl
theorem q_ixF_l (x : List D) (y : D) : ixF (.lst x) y = ixD (.lst x) y := rfl
theorem q_ixF_t (x : List D) (y : D) : ixF (.tup x) y = ixD (.tup x) y := rfl
theorem q_ixF_b (x : Addr) (y : D) : ixF (.bag x) y = ixD (.bag x) y := rfl
theorem q_inF_s (n : Bool) (x : D) (y : List Nat) : inF n x (.str y) = inE n x (.str y) := rfl
theorem q_inF_l (n : Bool) (x : D) (y : List D) : inF n x (.lst y) = inE n x (.lst y) := rfl
theorem q_inF_t (n : Bool) (x : D) (y : List D) : inF n x (.tup y) = inE n x (.tup y) := rfl
theorem q_lenG_s (x : List Nat) : lenG [.str x] = lenF [.str x] := rfl
theorem q_lenG_l (x : List D) : lenG [.lst x] = M.ret (.int x.length) := rfl
theorem q_lenG_t (x : List D) : lenG [.tup x] = M.ret (.int x.length) := rfl
theorem q_lenG_d (ks : List Key) (ds : List D) : lenG [.dct ks ds] = M.ret (.int ks.length) := rfl
theorem q_lenG_dt (ks : List (List Key)) (ds : List D) : lenG [.dcT ks ds] = M.ret (.int ks.length) := rfl
theorem q_seeT (o : O) : (Slot.tr o).see = o.toD := rfl
theorem q_toDv (d : D) : (O.v d).toD = d := rfl
theorem q_toDl (xs : List O) : (O.l xs).toD = .lst (O.toDs xs) := rfl
theorem q_toDk (ks : List Key) (xs : List O) : (O.k ks xs).toD = .dct ks (O.toDs xs) := rfl
theorem q_toDt (ks : List (List Key)) (xs : List O) : (O.t ks xs).toD = .dcT ks (O.toDs xs) := rfl
theorem q_toDs0 : O.toDs [] = [] := rfl
theorem q_toDs1 (x : O) (r : List O) : O.toDs (x :: r) = x.toD :: O.toDs r := rfl
theorem q_toDsm (xs : List D) : O.toDs (xs.map O.v) = xs := O.toDs_v xs
theorem q_fls0 : O.fls [] = true := rfl
theorem q_fls1 (x : O) (r : List O) : O.fls (x :: r) = (x.fl && O.fls r) := rfl
theorem q_flv (d : D) : (O.v d).fl = d.flat := rfl
theorem q_fll (xs : List O) : (O.l xs).fl = O.fls xs := rfl
theorem q_flk (ks : List Key) (xs : List O) : (O.k ks xs).fl = O.fls xs := rfl
theorem q_flt (ks : List (List Key)) (xs : List O) : (O.t ks xs).fl = O.fls xs := rfl
theorem fls_map : ∀ xs : List D, O.fls (xs.map O.v) = xs.all D.flat
  | [] => rfl
  | x :: r => by
    show (_ && O.fls (r.map O.v)) = _
    rw [fls_map r]; rfl
theorem q_flsm (xs : List D) : O.fls (xs.map O.v) = xs.all D.flat := fls_map xs
theorem q_flatS (ls : List (List Nat)) : (ls.map D.str).all D.flat = true := by simp [D.flat]
theorem q_flatI {α : Type} (f : α → Int) (xs : List α) : (xs.map fun a => D.int (f a)).all D.flat = true := by simp [D.flat]
theorem q_flatS2 {α : Type} (f : α → List Nat) (xs : List α) : (xs.map fun a => D.str (f a)).all D.flat = true := by simp [D.flat]
theorem q_mapv0 : ([] : List D).map O.v = [] := rfl
theorem q_whileM (ms : List Nat) (t : Env → M Bool) (body : Env2 → M Out) (n : Nat) (ρ : Env2) : whileM ms t body (n + 1) ρ = bnd (t (view ms ρ)) fun k => cnd k (bnd (body ρ) fun o => match o with
      | .nx ρ' => whileM ms t body n ρ'
      | .ct ρ' => whileM ms t body n ρ'
      | .bk ρ' => M.ret (.nx ρ')
      | .rt d => M.ret (.rt d)
      | .rn ys => M.ret (.rn ys)) (M.ret (.nx ρ)) := rfl
theorem ixD_strmod {x : List Nat} {i : Int} (hz : x.length ≤ 16777216) (h : 0 < x.length) : ixD (.str x) (.int (i % (x.length : Int))) = M.ret (.str [x.getD (i % (x.length : Int)).toNat 0]) := by
  have h' : (0 : Int) < x.length := by omega
  exact ixD_str hz (Int.emod_nonneg _ (by omega)) (Int.emod_lt_of_pos _ h')
theorem cut_toN {α : Type} (xs : List α) (k : Nat) : cutL xs none (some (k : Int)) = xs.take k := by rw [cut_to _ (by omega), Int.toNat_natCast]
theorem cut_fromN {α : Type} (xs : List α) (k : Nat) : cutL xs (some (k : Int)) none = xs.drop k := by rw [cut_from _ (by omega), Int.toNat_natCast]
theorem cut_from1N {α : Type} (xs : List α) (k : Nat) : cutL xs (some ((k : Int) + 1)) none = xs.drop (k + 1) := by rw [cut_from _ (by omega), show ((k : Int) + 1).toNat = k + 1 by omega]
theorem cut_to1N {α : Type} (xs : List α) (k : Nat) : cutL xs none (some ((k : Int) + 1)) = xs.take (k + 1) := by rw [cut_to _ (by omega), show ((k : Int) + 1).toNat = k + 1 by omega]
theorem cut_to1 {α : Type} (xs : List α) : cutL xs none (some 1) = xs.take 1 := cut_to xs (by decide)
theorem cut_to2 {α : Type} (xs : List α) : cutL xs none (some 2) = xs.take 2 := cut_to xs (by decide)
theorem cut_to3 {α : Type} (xs : List α) : cutL xs none (some 3) = xs.take 3 := cut_to xs (by decide)
theorem cut_from1 {α : Type} (xs : List α) : cutL xs (some 1) none = xs.drop 1 := cut_from xs (by decide)
theorem cut_toM1 {α : Type} (xs : List α) : cutL xs none (some (-1)) = xs.take (xs.length - 1) := by
  unfold cutL
  have e2 : HT.sIx xs.length xs.length (some (-1)) = xs.length - 1 := by
    show (if (-1 : Int) < 0 then (-1 + (xs.length : Int)).toNat else min (-1 : Int).toNat xs.length) = _
    rw [if_pos (by omega)]
    omega
  have e0 : HT.sIx xs.length 0 none = 0 := rfl
  rw [e2, e0, List.drop_zero, Nat.sub_zero]
theorem cut_fromM1 {α : Type} (xs : List α) : cutL xs (some (-1)) none = xs.drop (xs.length - 1) := by
  unfold cutL
  have e2 : HT.sIx xs.length 0 (some (-1)) = xs.length - 1 := by
    show (if (-1 : Int) < 0 then (-1 + (xs.length : Int)).toNat else min (-1 : Int).toNat xs.length) = _
    rw [if_pos (by omega)]
    omega
  have e0 : HT.sIx xs.length xs.length none = xs.length := rfl
  rw [e2, e0, List.take_of_length_le (by simp)]
def Ev {α : Type} (m : M α) (P : α → Prop) : Prop := ∃ a, m = M.ret a ∧ P a
theorem Ev.ret {α : Type} {a : α} {P : α → Prop} (h : P a) : Ev (M.ret a) P := ⟨a, rfl, h⟩
theorem Ev.bind {α β : Type} {m : M α} {f : α → M β} {P : α → Prop} {Q : β → Prop} {t : Tg f} (h : Ev m P) (k : ∀ a, P a → Ev (f a) Q) : Ev (bnd m f t) Q := by
  obtain ⟨a, rfl, hp⟩ := h
  exact k a hp
theorem Ev.tot {α : Type} {p : Addr} {m : M α} {P : α → Prop} (h : Ev m P) : Tot p m P := by
  obtain ⟨a, rfl, hp⟩ := h
  exact Tot.ret hp
theorem Ev.eq {α : Type} {m : M α} {a : α} (h : Ev m (· = a)) : m = M.ret a := by
  obtain ⟨b, e, rfl⟩ := h
  exact e
theorem Tot.bnd {α β : Type} {p : Addr} {m : M α} {f : α → M β} {P : α → Prop} {Q : β → Prop} {t : Tg f} (h : Tot p m P) (k : ∀ a, P a → Tot p (f a) Q) : Tot p (DL.bnd m f t) Q := Tot.bind h k
theorem tot_loopB {β : Type} {p : Addr} {bs : D → Option (List (Nat × D))} {body : Env2 → M Out} {xs : List D} (I : Nat → Env2 → Prop) {ρ : Env2} {κ : Out → M β} {t : Tg κ} {Q : β → Prop} (h0 : I 0 ρ) (h : ∀ i x ρ, xs[i]? = some x → I i ρ → ∃ l, bs x = some l ∧ Tot p (body (setAll2 ρ l)) fun o => ∃ ρ', (o = .nx ρ' ∨ o = .ct ρ') ∧ I (i + 1) ρ') (hk : ∀ ρ', I xs.length ρ' → Tot p (κ (.nx ρ')) Q) : Tot p (bnd (loopM bs body xs ρ) κ t) Q := by
  have key : ∀ (xs : List D) (I : Nat → Env2 → Prop) (ρ : Env2), I 0 ρ → (∀ i x ρ, xs[i]? = some x → I i ρ → ∃ l, bs x = some l ∧ Tot p (body (setAll2 ρ l)) fun o => ∃ ρ', (o = .nx ρ' ∨ o = .ct ρ') ∧ I (i + 1) ρ') → Tot p (loopM bs body xs ρ) fun o => ∃ ρ', o = .nx ρ' ∧ I xs.length ρ' := by
    intro xs
    induction xs with
    | nil => intro I ρ h0 h; exact Tot.ret ⟨ρ, rfl, h0⟩
    | cons x xs ih =>
      intro I ρ h0 h
      obtain ⟨l, e1, h1⟩ := h 0 x ρ rfl h0
      rw [q_loop1 ρ e1]
      refine h1.bnd fun o ho => ?_
      obtain ⟨ρ', ho, hi⟩ := ho
      have := ih (fun i => I (i + 1)) ρ' hi fun i y ρ hy hi => h (i + 1) y ρ (by simpa using hy) hi
      rcases ho with rfl | rfl
      · exact this
      · exact this
  refine (key xs I ρ h0 h).bnd fun o ho => ?_
  obtain ⟨ρ', rfl, hi⟩ := ho
  exact hk ρ' hi
theorem tot_loopC {β : Type} {p : Addr} {bs : D → Option (List (Nat × D))} {body : Env2 → M Out} {xs : List D} (I : Env2 → Prop) {ρ : Env2} {κ : Out → M β} {t : Tg κ} {Q : β → Prop} (h0 : I ρ) (h : ∀ x ∈ xs, ∀ ρ, I ρ → ∃ l, bs x = some l ∧ Tot p (body (setAll2 ρ l)) fun o => ∃ ρ', (o = .nx ρ' ∨ o = .ct ρ') ∧ I ρ') (hk : ∀ ρ', I ρ' → Tot p (κ (.nx ρ')) Q) : Tot p (bnd (loopM bs body xs ρ) κ t) Q :=
  tot_loopB (fun _ => I) h0 (fun i x ρ hx hi => h x (List.mem_of_getElem? hx) ρ hi) hk
theorem tot_loopZ {p : Addr} {bs : D → Option (List (Nat × D))} {body : Env2 → M Out} {xs : List D} (I : Env2 → Prop) {ρ : Env2} {Q : Out → Prop} (h0 : I ρ) (h : ∀ x ∈ xs, ∀ ρ, I ρ → ∃ l, bs x = some l ∧ Tot p (body (setAll2 ρ l)) fun o => ∃ ρ', (o = .nx ρ' ∨ o = .ct ρ') ∧ I ρ') (hk : ∀ ρ', I ρ' → Q (.nx ρ')) : Tot p (loopM bs body xs ρ) Q := by
  rw [← M.bind_ret (loopM bs body xs ρ)]
  exact tot_loopC (t := Tg.mk _) I h0 h fun ρ' hi => Tot.ret (hk ρ' hi)
theorem okA_lst {k w : Nat} {ds : List D} (h : ∀ d ∈ ds, Okd k w d) (hk : k ≤ 63) (hw : ds.length * (w + 2) + 3 ≤ 16777216) : okA (.lst ds) = true := (Okd.lst h).ok (by omega) hw
theorem okA_tup {k w : Nat} {ds : List D} (h : ∀ d ∈ ds, Okd k w d) (hk : k ≤ 63) (hw : ds.length * (w + 2) + 3 ≤ 16777216) : okA (.tup ds) = true := (Okd.tup h).ok (by omega) hw
abbrev kS (x : List Nat) : Key := .inr ⟨x.toArray⟩
theorem kS_inj {x y : List Nat} (h : kS x = kS y) : x = y := by
  have := congrArg (fun z : Key => match z with | .inr s => s.cps.toList | .inl _ => []) h
  simpa using this
end DL
set_option Elab.async false
set_option maxRecDepth 100000
set_option autoImplicit false
set_option linter.unusedVariables false
set_option maxHeartbeats 4000000
namespace DL
open PySem L2
mutual
def D.pl : D → Bool
  | .non => true
  | .int _ => true
  | .str _ => true
  | .lst xs => D.pls xs
  | .tup xs => D.pls xs
  | _ => false
def D.pls : List D → Bool
  | [] => true
  | x :: r => x.pl && D.pls r
end
theorem toPy_lst {xs : List D} {a : PyData} (h : toPy (.lst xs) = some a) : ∃ es, toPyL xs = some es ∧ a = .list es := by
  unfold toPy at h
  cases e : toPyL xs with
  | none => rw [e] at h; cases h
  | some es => rw [e] at h; cases h; exact ⟨es, rfl, rfl⟩
theorem toPy_tup {xs : List D} {a : PyData} (h : toPy (.tup xs) = some a) : ∃ es, toPyL xs = some es ∧ a = .tuple es := by
  unfold toPy at h
  cases e : toPyL xs with
  | none => rw [e] at h; cases h
  | some es => rw [e] at h; cases h; exact ⟨es, rfl, rfl⟩
theorem toPyL_cons {x : D} {xs : List D} {es : List PyData} (h : toPyL (x :: xs) = some es) : ∃ a r, toPy x = some a ∧ toPyL xs = some r ∧ es = a :: r := by
  unfold toPyL at h
  cases e : toPy x with
  | none => rw [e] at h; cases h
  | some a =>
    rw [e] at h
    cases e2 : toPyL xs with
    | none => rw [e2] at h; cases h
    | some r => rw [e2] at h; cases h; exact ⟨a, r, rfl, rfl, rfl⟩
theorem str_beq2 (a b : List Nat) : ((⟨a.toArray⟩ : Str) == ⟨b.toArray⟩) = true ↔ a = b := by
  rw [str_beq, beq_iff_eq]
mutual
theorem eqv_pl : ∀ (d e : D) (a b : PyData), d.pl = true → e.pl = true → toPy d = some a → toPy e = some b → (PyData.eqv a b = true ↔ d = e)
  | .non, e, a, b, _, h2, ha, hb => by
    unfold toPy at ha
    cases ha
    cases e with
    | non => unfold toPy at hb; cases hb; simp [PyData.eqv]
    | int i => unfold toPy at hb; cases hb; simp [PyData.eqv]
    | str i => unfold toPy at hb; cases hb; simp [PyData.eqv]
    | lst xs => obtain ⟨es, _, rfl⟩ := toPy_lst hb; simp [PyData.eqv]
    | tup xs => obtain ⟨es, _, rfl⟩ := toPy_tup hb; simp [PyData.eqv]
    | _ => cases h2
  | .int i, e, a, b, _, h2, ha, hb => by
    unfold toPy at ha
    cases ha
    cases e with
    | non => unfold toPy at hb; cases hb; simp [PyData.eqv]
    | int i => unfold toPy at hb; cases hb; simp [PyData.eqv]
    | str i => unfold toPy at hb; cases hb; simp [PyData.eqv]
    | lst xs => obtain ⟨es, _, rfl⟩ := toPy_lst hb; simp [PyData.eqv]
    | tup xs => obtain ⟨es, _, rfl⟩ := toPy_tup hb; simp [PyData.eqv]
    | _ => cases h2
  | .str i, e, a, b, _, h2, ha, hb => by
    unfold toPy at ha
    cases ha
    cases e with
    | non => unfold toPy at hb; cases hb; simp [PyData.eqv]
    | int i => unfold toPy at hb; cases hb; simp [PyData.eqv]
    | str j => unfold toPy at hb; cases hb; show ((⟨i.toArray⟩ : Str) == ⟨j.toArray⟩) = true ↔ _; rw [str_beq2]; simp
    | lst xs => obtain ⟨es, _, rfl⟩ := toPy_lst hb; simp [PyData.eqv]
    | tup xs => obtain ⟨es, _, rfl⟩ := toPy_tup hb; simp [PyData.eqv]
    | _ => cases h2
  | .lst xs, e, a, b, h1, h2, ha, hb => by
    obtain ⟨es, hx, rfl⟩ := toPy_lst ha
    cases e with
    | non => unfold toPy at hb; cases hb; simp [PyData.eqv]
    | int i => unfold toPy at hb; cases hb; simp [PyData.eqv]
    | str i => unfold toPy at hb; cases hb; simp [PyData.eqv]
    | lst ys =>
      obtain ⟨fs, hy, rfl⟩ := toPy_lst hb
      have := eqvAll_pl xs ys es fs h1 h2 hx hy
      show PyData.eqvAll es fs = true ↔ _
      rw [this]
      simp
    | tup xs => obtain ⟨es, _, rfl⟩ := toPy_tup hb; simp [PyData.eqv]
    | _ => cases h2
  | .tup xs, e, a, b, h1, h2, ha, hb => by
    obtain ⟨es, hx, rfl⟩ := toPy_tup ha
    cases e with
    | non => unfold toPy at hb; cases hb; simp [PyData.eqv]
    | int i => unfold toPy at hb; cases hb; simp [PyData.eqv]
    | str i => unfold toPy at hb; cases hb; simp [PyData.eqv]
    | tup ys =>
      obtain ⟨fs, hy, rfl⟩ := toPy_tup hb
      have := eqvAll_pl xs ys es fs h1 h2 hx hy
      show PyData.eqvAll es fs = true ↔ _
      rw [this]
      simp
    | lst xs => obtain ⟨es, _, rfl⟩ := toPy_lst hb; simp [PyData.eqv]
    | _ => cases h2
  | .bl _, _, _, _, h1, _, _, _ => by cases h1
  | .dct _ _, _, _, _, h1, _, _, _ => by cases h1
  | .dcT _ _, _, _, _, h1, _, _, _ => by cases h1
  | .obj _ _, _, _, _, h1, _, _, _ => by cases h1
  | .bag _, _, _, _, h1, _, _, _ => by cases h1
  | .scr _, _, _, _, h1, _, _, _ => by cases h1
  | .exc _ _ _ _, _, _, _, h1, _, _, _ => by cases h1
  | .clo _ _, _, _, _, h1, _, _, _ => by cases h1
theorem eqvAll_pl : ∀ (xs ys : List D) (es fs : List PyData), D.pls xs = true → D.pls ys = true → toPyL xs = some es → toPyL ys = some fs → (PyData.eqvAll es fs = true ↔ xs = ys)
  | [], [], es, fs, _, _, hx, hy => by unfold toPyL at hx hy; cases hx; cases hy; simp [PyData.eqvAll]
  | [], y :: ys, es, fs, _, _, hx, hy => by
    obtain ⟨b, r, _, _, rfl⟩ := toPyL_cons hy
    unfold toPyL at hx; cases hx; simp [PyData.eqvAll]
  | x :: xs, [], es, fs, _, _, hx, hy => by
    obtain ⟨b, r, _, _, rfl⟩ := toPyL_cons hx
    unfold toPyL at hy; cases hy; simp [PyData.eqvAll]
  | x :: xs, y :: ys, es, fs, h1, h2, hx, hy => by
    obtain ⟨a, r, ha, hr, rfl⟩ := toPyL_cons hx
    obtain ⟨b, s, hb, hs, rfl⟩ := toPyL_cons hy
    have h1 : (x.pl && D.pls xs) = true := h1
    have h2 : (y.pl && D.pls ys) = true := h2
    rw [Bool.and_eq_true] at h1 h2
    show (PyData.eqv a b && PyData.eqvAll r s) = true ↔ _
    rw [Bool.and_eq_true, eqv_pl x y a b h1.1 h2.1 ha hb, eqvAll_pl xs ys r s h1.2 h2.2 hr hs]
    simp
end
noncomputable def eqB (d e : D) : Bool := @decide (d = e) (Classical.propDecidable _)
theorem eqB_iff {d e : D} : eqB d e = true ↔ d = e := by unfold eqB; exact @decide_eq_true_iff (d = e) (Classical.propDecidable _)
theorem eqDeep_pl (neg : Bool) {d e : D} (h1 : okA d = true) (h2 : okA e = true) (p1 : d.pl = true) (p2 : e.pl = true) : eqDeep neg d e = M.ret (.bl (if neg then !eqB d e else eqB d e)) := by
  unfold okA at h1 h2
  cases ea : toPy d with
  | none => rw [ea] at h1; cases h1
  | some a =>
    cases eb : toPy e with
    | none => rw [eb] at h2; cases h2
    | some b =>
      rw [ea] at h1
      rw [eb] at h2
      simp only [Bool.and_eq_true] at h1 h2
      unfold eqDeep
      rw [ea, eb]
      show M.guard _ _ = _
      rw [M.guard_of (by rw [h1.1.2, h2.1.2]; rfl)]
      have : PyData.eqv a b = eqB d e := by
        rw [Bool.eq_iff_iff, eqv_pl d e a b p1 p2 ea eb, eqB_iff]
      rw [this]
theorem eqD_pl (neg : Bool) {d e : D} (h1 : okA d = true) (h2 : okA e = true) (p1 : d.pl = true) (p2 : e.pl = true) : eqD neg d e = M.ret (.bl (if neg then !eqB d e else eqB d e)) := by
  have deep := eqDeep_pl neg h1 h2 p1 p2
  cases d with
  | int i =>
    cases e with
    | int j =>
      show M.ret (D.bl (if neg then !decide (i = j) else decide (i = j))) = _
      have : decide (i = j) = eqB (.int i) (.int j) := by rw [Bool.eq_iff_iff, eqB_iff]; simp
      rw [this]
    | _ => exact deep
  | str i =>
    cases e with
    | str j =>
      show M.ret (D.bl (if neg then !decide (i = j) else decide (i = j))) = _
      have : decide (i = j) = eqB (.str i) (.str j) := by rw [Bool.eq_iff_iff, eqB_iff]; simp
      rw [this]
    | _ => exact deep
  | bl i => cases p1
  | _ => exact deep
theorem eqD_nil (neg : Bool) {xs : List D} (h : okA (.lst xs) = true) : eqD neg (.lst xs) (.lst []) = M.ret (.bl (if neg then !xs.isEmpty else xs.isEmpty)) := by
  unfold okA at h
  cases ea : toPy (.lst xs) with
  | none => rw [ea] at h; cases h
  | some a =>
    rw [ea] at h
    simp only [Bool.and_eq_true] at h
    show eqDeep neg (.lst xs) (.lst []) = _
    unfold eqDeep
    have eb : toPy (.lst []) = some (.list []) := by unfold toPy toPyL; rfl
    rw [ea, eb]
    show M.guard _ _ = _
    have sh : SeqAt.shaped (.list []) = true := by decide +kernel
    rw [M.guard_of (by rw [h.1.2, sh]; rfl)]
    obtain ⟨es, hx, rfl⟩ := toPy_lst ea
    have : PyData.eqv (.list es) (.list []) = xs.isEmpty := by
      cases xs with
      | nil => unfold toPyL at hx; cases hx; rfl
      | cons x r => obtain ⟨b, s, _, _, rfl⟩ := toPyL_cons hx; rfl
    rw [this]
theorem neD_same {d : D} (h : okA d = true) : eqD true d d = M.ret (.bl false) := by
  have deep : eqDeep true d d = M.ret (.bl false) := by
    have := h
    unfold okA at this
    cases ea : toPy d with
    | none => rw [ea] at this; cases this
    | some a =>
      have e1 := eqDeep_same h
      unfold eqDeep at e1 ⊢
      rw [ea] at e1 this ⊢
      simp only [Bool.and_eq_true] at this
      have g : (SeqAt.shaped a && SeqAt.shaped a) = true := by rw [this.1.2]; rfl
      have e1 : M.guard (SeqAt.shaped a && SeqAt.shaped a) (M.ret (D.bl (PyData.eqv a a))) = M.ret (.bl true) := e1
      show M.guard (SeqAt.shaped a && SeqAt.shaped a) (M.ret (D.bl (!PyData.eqv a a))) = _
      rw [M.guard_of g] at e1 ⊢
      have : PyData.eqv a a = true := by
        have := congrFun e1 none
        cases hq : PyData.eqv a a with
        | true => rfl
        | false => rw [hq] at this; cases this
      rw [this]; rfl
  cases d with
  | int i => simp [eqD]
  | str i => simp [eqD]
  | bl i => simp [eqD]
  | _ => exact deep
end DL
set_option Elab.async false
set_option maxRecDepth 100000
set_option autoImplicit false
set_option linter.unusedVariables false
set_option maxHeartbeats 4000000
namespace DL
open PySem L2
variable [TAB : TabList]
variable [EFF : Eff]
set_option linter.unusedSectionVars false
section
variable {X : Cx} {a b c : Expr} {pos : Pos}
end
section
variable {ρ : Env}
end
end DL
set_option Elab.async false
set_option maxRecDepth 100000
set_option autoImplicit false
set_option linter.unusedVariables false
set_option maxHeartbeats 4000000
namespace DL
open PySem L2 PySem.Spec PyProof.Rows
variable [TAB : TabList]
variable [EFF : Eff]
set_option linter.unusedSectionVars false
section
variable {X : Cx} {a b e : Expr} {pos p p2 : Pos} {c : Nat} {C g : Addr} {k : Nat} {fd : FuncData} {ps : List Str} {f h : Env → M D}
theorem snd_own {K : PySem.W.Frag} {mg : Str → Option Value} {R : List D → M D} (T : ClsAt K mg c C) : SndR K (SlX.rOwn K C (fun vs H Q E => spD K 2 R (vs ++ []) H Q E) E0) (fun x y => M.guard (isC c x && isC c y) (R [x, y])) := by
  intro G H b x y dx dy d b' Q rx ry fz ob e q
  obtain ⟨hc, e3⟩ := M.guard_some e
  rw [Bool.and_eq_true] at hc
  obtain ⟨a, ax, vs, fs, rfl, rfl, hs, rl⟩ := isC_rp T hc.1 rx
  obtain ⟨a2, ax2, vs2, fs2, rfl, rfl, hs2, rl2⟩ := isC_rp T hc.2 ry
  exact ⟨a, ax, _, a2, C, ax2, _, rfl, rfl, slt_mono fz hs, slt_mono fz hs2, by simp [PySem.W.notFirst], G, b, [.obj c fs, .obj c fs2], d, b', .cons rx (.cons ry .nil), rfl, fz, ob, e3, q⟩
def eqC (c : Nat) (R : List D → M D) (x y : D) : M D := M.guard (isC c x && isC c y) (R [x, y])
theorem d_eqO {R : List D → M D} (T : ClsAt X.K X.mg c C) (m : Meth X.K C "__eq__" g) (F : FnOk X.prog X.w X.K X.mg X.base CX0 k g fd ps (spD X.K 2 R)) (bd : Binds X.K fd ps []) (hr : Room k X.A) (ha : DE X a f) (hb : DE X b h) :
    DE X (.Compare a [.Eq] [b] pos) (e2 (eqC c R) f h) := d_cmp (SlX.op_own (op := .Eq) (E := E0) (fun _ _ => rfl) m.at_ m.fn (raw0 F bd) hr pass0) (snd_own T) ha hb (nomark _)
theorem t_eqO {R : List D → M D} (T : ClsAt X.K X.mg c C) (m : Meth X.K C "__eq__" g) (F : FnOk X.prog X.w X.K X.mg X.base CX0 k g fd ps (spD X.K 2 R)) (bd : Binds X.K fd ps []) (hr : Room k X.A) (ha : DE X a f) (hb : DE X b h) :
    DT X (.Compare a [.Eq] [b] pos) (t2 (eqC c R) f h) := t_cmp (SlX.op_own (op := .Eq) (E := E0) (fun _ _ => rfl) m.at_ m.fn (raw0 F bd) hr pass0) (snd_own T) ha hb (nomark _)
structure IsiAt (K : PySem.W.Frag) (C : Addr) : Prop where
  si : SlX.SIsi K C
  ic : PySem.W.isClsIn K C = true
  ty : PySem.W.typeIn K (.ref C) = some (.type "type")
  k0 : PySem.W.subIn K (.type "NoneType") (.ref C) = some false
  k1 : PySem.W.subIn K (.type "bool") (.ref C) = some false
  k2 : PySem.W.subIn K (.type "int") (.ref C) = some false
  k3 : PySem.W.subIn K (.type "str") (.ref C) = some false
  k4 : PySem.W.subIn K (.type "list") (.ref C) = some false
  k5 : PySem.W.subIn K (.type "tuple") (.ref C) = some false
  k6 : PySem.W.subIn K (.type "dict") (.ref C) = some false
theorem IsiAt.one {K : PySem.W.Frag} {C : Addr} (h : IsiAt K C) {t : String} (hs : PySem.W.subIn K (.type t) (.ref C) = some false) : PySem.W.kitOne K (.type t) (.ref C) = some false := by
  unfold PySem.W.kitOne
  rw [if_neg (by intro z; cases z)]
  have ic : (PySem.W.clsIn K C).isSome = true := h.ic
  show (if ((PySem.W.clsIn K C).isSome && PySem.W.typeIn K (.ref C) == some (.type "type")) = true then _ else _) = _
  rw [if_pos (by rw [ic, h.ty]; rfl)]
  exact hs
theorem IsiAt.no {K : PySem.W.Frag} {C : Addr} (h : IsiAt K C) : ∀ t ∈ tys, PySem.W.kitOne K (.type t) (.ref C) = some false := by
  intro t ht
  simp only [tys, List.mem_cons, List.not_mem_nil, or_false] at ht
  rcases ht with rfl | rfl | rfl | rfl | rfl | rfl | rfl
  · exact h.one h.k0
  · exact h.one h.k1
  · exact h.one h.k2
  · exact h.one h.k3
  · exact h.one h.k4
  · exact h.one h.k5
  · exact h.one h.k6
def isiO (c : Nat) (d : D) : M D := if isC c d = true then M.ret (.bl true) else match tyD d with
  | some _ => M.ret (.bl false)
  | none => M.fail
theorem d_isiO {x : Str} (T : ClsAt X.K X.mg c C) (I : IsiAt X.K C) (hx : clsName c = x) (hg : Gl X "isinstance") (hm : X.mg "isinstance" = none) (hgt : Gl X x) (he : DE X e f) (hdt : (x == ("__debug__" : Str)) = false := by decide)
    (hs : starEach [e, .Name x p2] X.env = (false, eval e X.env) :: starEach [.Name x p2] X.env := by rfl) (hs2 : starEach [.Name x p2] X.env = (false, eval (.Name x p2) X.env) :: starEach [] X.env := by rfl)
    (hpl : (backTo pos (starEach [.Name x p2] X.env)).any (·.1) = false := by rfl) :
    DE X (.Call (.Name "isinstance" p) [e, .Name x p2] [] pos) (e1 (isiO c) f) := by
  have pt : PE X (.Name x p2) (tC (.ref C)) := pe_glob hgt (by rw [← hx]; exact T.gl) rfl hdt
  refine PEimp (pe_callB ((SlX.call_isiSl (.ref C)).or call_isi) hg hm (by decide +kernel) (pa_cons he (pa_cons pt pa_nil hs2) hs) (he := hs) (hpl := hpl)) ?_
  rintro σ H Q ⟨ρ, G, b, d, b', rs, fz, ob, e, q⟩
  obtain ⟨x, b1, e1, e2⟩ := M.bind_some e
  refine ⟨ρ, G, b, x, b1, rs, fz, ob, e1, fun v G1 H1 n1 r => ?_⟩
  unfold isiO at e2
  by_cases hc : isC c x = true
  · rw [if_pos hc] at e2
    cases e2
    obtain ⟨a, ax, vs, fs, rfl, rfl, hs, rl⟩ := isC_rp T hc r
    exact .inl ⟨a, C, ax, _, .ref C, true, rfl, rfl, fun _ z => z, slt_mono n1.fz hs, T.cl, I.si, by simp [PySem.W.kitOne], q _ G1 H1 n1 (.bl _)⟩
  · rw [if_neg hc] at e2
    cases et : tyD x with
    | none => rw [et] at e2; cases e2
    | some t =>
      rw [et] at e2
      cases e2
      exact .inr ⟨v, .ref C, .type t, .ref C, _, rfl, .own C, tyD_of r n1.fz et, I.no t (tyD_mem et), q _ G1 H1 n1 (.bl _)⟩
end
section
variable {X : Cx} {pos : Pos}
end
section
theorem q_eqC (c : Nat) (R : List D → M D) (fs gs : List D) : eqC c R (.obj c fs) (.obj c gs) = R [.obj c fs, .obj c gs] := by
  show M.guard ((c == c) && (c == c)) _ = _
  rw [beq_self_eq_true]; rfl
theorem q_isiO (c : Nat) (fs : List D) : isiO c (.obj c fs) = M.ret (.bl true) := by
  unfold isiO
  rw [if_pos (show isC c (D.obj c fs) = true from beq_self_eq_true c)]
theorem q_isiO_i (c : Nat) (i : Int) : isiO c (.int i) = M.ret (.bl false) := rfl
theorem q_isiO_s (c : Nat) (i : List Nat) : isiO c (.str i) = M.ret (.bl false) := rfl
theorem q_isiO_n (c : Nat) : isiO c .non = M.ret (.bl false) := rfl
theorem q_isiO_l (c : Nat) (i : List D) : isiO c (.lst i) = M.ret (.bl false) := rfl
theorem q_isiO_t (c : Nat) (i : List D) : isiO c (.tup i) = M.ret (.bl false) := rfl
end
end DL
set_option Elab.async false
set_option maxRecDepth 100000
set_option autoImplicit false
set_option linter.unusedVariables false
set_option maxHeartbeats 4000000
namespace DL
open PySem L2 PySem.Spec PyProof.Rows
variable [TAB : TabList]
variable [EFF : Eff]
set_option linter.unusedSectionVars false
section
variable {α β : Type}
theorem q_cndN (k : Bool) (a b : M α) (t : Tg (a, b)) : cnd (!k) a b t = cnd k b a := by cases k <;> rfl
theorem q_szL {xs : List D} (h : xs.length ≤ 16777216) (m : M α) : M.guard (szL xs) m = m := M.guard_of (decide_eq_true h)
end
theorem q_c0 : ((0 : Nat) : Int) = 0 := rfl
theorem q_c1 : ((1 : Nat) : Int) = 1 := rfl
theorem q_c2 : ((2 : Nat) : Int) = 2 := rfl
theorem q_c3 : ((3 : Nat) : Int) = 3 := rfl
theorem q_c4 : ((4 : Nat) : Int) = 4 := rfl
theorem q_c5 : ((5 : Nat) : Int) = 5 := rfl
theorem q_c6 : ((6 : Nat) : Int) = 6 := rfl
theorem q_c7 : ((7 : Nat) : Int) = 7 := rfl
theorem q_c8 : ((8 : Nat) : Int) = 8 := rfl
theorem q_c9 : ((9 : Nat) : Int) = 9 := rfl
theorem q_c10 : ((10 : Nat) : Int) = 10 := rfl
theorem q_c11 : ((11 : Nat) : Int) = 11 := rfl
theorem q_c12 : ((12 : Nat) : Int) = 12 := rfl
theorem q_c13 : ((13 : Nat) : Int) = 13 := rfl
theorem q_c14 : ((14 : Nat) : Int) = 14 := rfl
theorem q_c15 : ((15 : Nat) : Int) = 15 := rfl
theorem q_c16 : ((16 : Nat) : Int) = 16 := rfl
end DL
set_option Elab.async false
set_option maxRecDepth 100000
set_option autoImplicit false
set_option linter.unusedVariables false
set_option maxHeartbeats 4000000
namespace DL
open PySem L2 PySem.Spec PyProof.Rows
variable [TAB : TabList]
variable [EFF : Eff]
set_option linter.unusedSectionVars false
section
variable {X : Cx} {a b : Expr} {pos : Pos} {f g : Env → M D}
end
theorem q_eqBl (i j : Bool) : eqD false (.bl i) (.bl j) = M.ret (.bl (decide (i = j))) := rfl
theorem q_neBl (i j : Bool) : eqD true (.bl i) (.bl j) = M.ret (.bl (!decide (i = j))) := rfl
end DL
set_option Elab.async false
set_option maxRecDepth 100000
set_option autoImplicit false
set_option linter.unusedVariables false
set_option maxHeartbeats 4000000
namespace DL
open PySem L2 PySem.Spec PyProof.Rows
variable [TAB : TabList]
variable [EFF : Eff]
set_option linter.unusedSectionVars false
section
variable {X : Cx} {e : Expr} {f : Env → M D} {pos p2 p3 : Pos}
end
structure SMet (K : PySem.W.Frag) (C : Addr) (m : Str) (p g : Addr) : Prop where
  rd : PySem.W.readsIn K C (.type "type") = true
  ga : PySem.W.specialIn K (.ref C) "__getattribute__" = some (some (.builtin "type.__getattribute__"))
  at_ : PySem.W.findCls K (.ref C) (.type "type") m = some (.get (.builtin "staticmethod.__get__") (.ref p) .none (.ref C))
  rc : ∃ rest, PySem.W.recIn K p "staticmethod" = some (.ref g :: rest)
  kp : PySem.W.keepIn K (.ref g) = true
structure StatAt (K : PySem.W.Frag) (C p : Addr) (m qual : Str) (st : Stmt) (ps : List Str) (f : Addr) (fd : FuncData) : Prop where
  fn : Fun K m qual st f fd
  bd : Binds K fd ps []
  sm : SMet K C m p f
section
variable {X : Cx} {CX : CXT} {k : Nat} {C p g : Addr} {sp : Sp} {E : XK} {e : Expr} {es : List Expr} {m x : Str} {pos apos p2 : Pos} {t : TA} {pl : Sem Bool} {fd : FuncData} {ps : List Str} {n : Nat} {Fn : List D → M D} {Fl : List D → M (List D)} {fa : Env → M (List D)} {c : Nat}
theorem pe_smeth (he : PE X (.Name x p2) (tC (.ref C))) (r : SMet X.K C m p g) (F : FnR X.prog X.w X.K X.mg X.base CX k g sp) (hr : Room k X.A) (hx : Passes CX X E) (ha : PA X (e :: es) t)
    (hst : starEach (e :: es) X.env = (false, eval e X.env) :: starEach es X.env := by rfl) (hpl : (backTo pos (starEach es X.env)).any (·.1) = false := by rfl)
    (ht : eval (.Call (.Attribute (.Name x p2) m apos) (e :: es) [] pos) X.env = (do
      let ov ← eval (.Name x p2) X.env
      standAt apos.atName
      let (f, first) ← holding [ov] (getMethod ov m pl)
      callWith pos f first (backTo pos (starEach (e :: es) X.env)) (backToKw pos (keywordEach [] X.env))) := by rfl) :
    PE X (.Call (.Attribute (.Name x p2) m apos) (e :: es) [] pos) (tCall sp [] E t) := by
  refine ⟨fun pins s σ H Q I h => ?_⟩
  refine PySem.W.methodCall_KW (pl := pl) (thn (he.run pins s σ H (fun v H' => v = .ref C ∧ H' = H) I ⟨rfl, rfl⟩) fun u s1 hu => ?_) ht
  obtain ⟨y, H1, I1, rx, ry, rh⟩ := hu
  subst ry
  subst rh
  obtain rfl : u = Value.ref C := rx
  obtain ⟨rest, hp⟩ := r.rc
  refine PySem.W.method_cls I1.kIn r.ga (PySem.W.cls_bind I1.kIn r.rd r.at_ (wpAny_call (PySem.W.sm_get (s := { s1 with toks := s1.toks + 1 }) I1.kIn hp (PySem.W.handed_on rfl ?_))))
  have I2 := I1.tok (s1.toks + 1)
  refine PySem.W.callWith_K (h₀ := X.base) I.ok.mod.kin r.kp (thn (ha.run pos pins _ σ H1 _ I2 h) fun us s3 hv => ?_) hst hpl
  obtain ⟨vs, H2, I3, rv, q2⟩ := hv
  have q2 : sp vs H2 Q E := by
    have q' : sp (vs ++ []) H2 Q E := q2
    rw [List.append_nil] at q'
    exact q'
  exact ⟨I3.kIn, wpAny_call (run_fnR F hr hx I3 rv q2)⟩
theorem raw1 {P : Program} {w : World} {K : PySem.W.Frag} {mg : Str → Option Value} {base : Heap} {sp : Sp} (F : FnOk P w K mg base CX0 k g fd ps sp) (hb : Binds K fd ps []) : FnR P w K mg base CX0 k g sp := by
  have h := F.raw hb .nil
  intro A outer s H us vs Q E hr e0 hv hs
  exact h A outer s H us vs Q E hr e0 hv (by show sp (vs ++ []) H Q E; rw [List.append_nil]; exact hs)
theorem d_smeth (T : ClsAt X.K X.mg c C) (r : SMet X.K C m p g) (F : FnOk X.prog X.w X.K X.mg X.base CX0 k g fd ps (spD X.K n Fn)) (hb : Binds X.K fd ps []) (hr : Room k X.A) (hx : clsName c = x) (hgt : Gl X x) (ha : DA X (e :: es) fa) (hn : ArN fa n) (hdt : (x == ("__debug__" : Str)) = false := by decide)
    (hst : starEach (e :: es) X.env = (false, eval e X.env) :: starEach es X.env := by rfl) (hpl : (backTo pos (starEach es X.env)).any (·.1) = false := by rfl)
    (ht : eval (.Call (.Attribute (.Name x p2) m apos) (e :: es) [] pos) X.env = (do
      let ov ← eval (.Name x p2) X.env
      standAt apos.atName
      let (f, first) ← holding [ov] (getMethod ov m pl)
      callWith pos f first (backTo pos (starEach (e :: es) X.env)) (backToKw pos (keywordEach [] X.env))) := by rfl) :
    DE X (.Call (.Attribute (.Name x p2) m apos) (e :: es) [] pos) (eCall Fn fa) :=
  PEimp (pe_smeth (E := E0) (pe_glob hgt (by rw [← hx]; exact T.gl) rfl hdt) r (raw1 F hb) hr pass0 ha hst hpl ht) (call_f hn)
end
end DL
set_option Elab.async false
set_option maxRecDepth 100000
set_option autoImplicit false
set_option linter.unusedVariables false
set_option maxHeartbeats 4000000
namespace DL
open PySem L2 PySem.Spec PyProof.Rows
variable [TAB : TabList]
variable [EFF : Eff]
set_option linter.unusedSectionVars false
section
variable {prog : Program} {w : World} {A : Around} {R : Result → Shared → Prop} {I : Addr} {fp wr : List Addr} {n : Nat} {P : Nat → Value → Prop} {St : Nat → Heap → Prop}
end
section
variable {prog : Program} {w : World} {A : Around} {E : Value → Shared → Prop} {s : Shared}
end
inductive Lss (H : Hp) : List Addr → List (List V) → Prop
  | nil : Lss H [] []
  | cons {a : Addr} {xs : List V} {as : List Addr} {xss : List (List V)} : H a = some (.lst xs) → Lss H as xss → Lss H (a :: as) (xs :: xss)
section
variable {X : Cx} {pins : List (Addr × Obj)} {σ : L2.St} {H : Hp} {s : Shared}
end
theorem Lss.mono {G H : Hp} (s : SameF G H) : ∀ {ls : List Addr} {vss : List (List V)}, Lss G ls vss → Lss H ls vss
  | _, _, .nil => .nil
  | _, _, .cons h r => .cons (s _ _ h) (Lss.mono s r)
section
variable {X : Cx} {c : Nat} {C : Addr} {e o : Expr} {es : List Expr} {f : Env → M D} {fa : Env → M (List D)} {pos : Pos} {k : Nat} {g : Addr} {fd : FuncData} {ps : List Str} {n : Nat} {Fn : List D → M D}
end
end DL
set_option Elab.async false
set_option maxRecDepth 100000
set_option autoImplicit false
set_option linter.unusedVariables false
set_option maxHeartbeats 4000000
namespace DL
open PySem L2 PySem.Spec PyProof.Rows
variable [TAB : TabList]
variable [EFF : Eff]
set_option linter.unusedSectionVars false
theorem upd_more {G : Hp} {p : Addr} {o : HO} (gp : G p = none) : Same G (upd G p o) := fun a u h => by rw [upd_ne (ne_of_none h gp)]; exact h
abbrev RpQ (K : PySem.W.Frag) (G : Hp) : List (V × V) → List (D × D) → Prop := Paired fun p q => Rp K G p.1 q.1 ∧ Rp K G p.2 q.2
theorem RpQ.mono {K : PySem.W.Frag} {G G' : Hp} (e : Same G G') : ∀ {vs : List (V × V)} {ds : List (D × D)}, RpQ K G vs ds → RpQ K G' vs ds
  | _, _, .nil => .nil
  | _, _, .cons a b => .cons ⟨a.1.mono e, a.2.mono e⟩ (RpQ.mono e b)
section
variable {X : Cx} {pos : Pos}
end
section
variable {X : Cx} {pos : Pos}
variable {es : List Expr} {b : Expr} {kk : Nat} {p2 : Pos} {fa : Env → M (List D)} {g : Env → M D}
end
end DL
set_option Elab.async false
set_option maxRecDepth 100000
set_option autoImplicit false
set_option linter.unusedVariables false
set_option maxHeartbeats 4000000
namespace DL
open PySem L2 PySem.Spec PyProof.Rows
variable [TAB : TabList]
variable [EFF : Eff]
set_option linter.unusedSectionVars false
end DL
set_option Elab.async false
set_option maxRecDepth 100000
set_option autoImplicit false
set_option linter.unusedVariables false
set_option maxHeartbeats 4000000
namespace DL
open PySem L2 PySem.Spec PyProof.Rows
variable [TAB : TabList]
variable [EFF : Eff]
set_option linter.unusedSectionVars false
section
variable {M : Model} {prog : Program} {w : World} {A : Around} {E : Value → Shared → Prop} {s : Shared} {K : PySem.W.Frag} {x C f L : Addr} {ox : Obj} {od : Option Obj} {h₀ : Heap} {m : Str → Option Value} {b tb : Value}
theorem ifBound_objNe {args : List Value} {Q : Option Value → Shared → Prop} (X : K.In s.heap) (I : PySem.W.InstAt s.heap x ox C od) (hs : PySem.W.findIn K (.ref C) "__ne__" = some (some (.builtin "object.__ne__")))
    (h : wpAny M A (call (.builtin "object.__ne__") (.ref x :: args)) (fun v => Q (some v)) E s) : wpAny M A (callSpecialIfBound? (.ref x) "__ne__" args) Q E s := by
  simp only [callSpecialIfBound?, bindSpecialIfBound?]
  refine wpAny_holding (wpAny_bind (wpAny_bind (wpAny_bind (I.type.here ((PySem.W.looks_findIn X hs).here ?_)))))
  refine wpAny_bind (wpAny_askSetting (wpAny_ite ?_))
  have fin : wpAny M A (call (.builtin "object.__ne__") ([.ref x] ++ args) >>= fun v => pure (some v)) Q E s := wpAny_bind (wpAny_mono h (fun v s' h' => wpAny_pure h') fun _ _ h' => h')
  split
  · exact wpAny_bind (wpAny_of_eq (F.cmp_object.ne.bind _) (wpAny_pure (by exact fin)))
  · exact wpAny_tryCatch (wpAny_bind (wpAny_of_eq (F.cmp_object.ne.bind _) (wpAny_pure (by exact fin))))
theorem objNe_entry {Q : PySem.Fin → Shared → Prop} (hu : A.units < cLine) (X : K.In s.heap) (I : PySem.W.InstAt s.heap x ox C od) (hs : PySem.W.findIn K (.ref C) "__eq__" = some (some (.ref f))) (hf : PySem.W.isFn K (.ref f) = true)
    (hcall : wpAny (model prog w) A (call (.ref f) [.ref x, b]) (fun v s' => ∃ c, v = .bool c ∧ Q (.done (.ret (.bool (!c)))) s') E s) :
    wpAny (model prog w) A (Builtin.«object.__ne__» ⟨[.ref x, b], []⟩) Q E s := by
  unfold Builtin.«object.__ne__»
  repeat (first
    | with_reducible refine wpAny_cRoomFor hu ?_
    | (refine wpAny_bind (m := callSpecialIfBound? (.ref x) (Str.ofString "__eq__") [b])
        (PySem.W.ifBound_K X I hs hf (wpAny_mono hcall (fun r s' hr => by
          obtain ⟨c, rfl, hq⟩ := hr
          repeat (first | exact hq | exact wpAny_pure hq | exact wpAny_truthy_bool hq | (refine wpAny_bind (m := truthy (.bool _)) (wpAny_truthy_bool ?_)) | wp_step)) fun _ _ e => e)))
    | wp_step)
theorem cmp_Ne {Q : Value → Shared → Prop} (hu : A.units + 1 < cLine) (X : K.In s.heap) (I : PySem.W.InstAt s.heap x ox C od) (hb : PySem.W.Looks (model prog w) s.heap (typeOf b) tb) (hn : PySem.W.notFirst K C tb = true) (hm : PySem.W.mroIn K C (.type "object") = some true)
    (hne : PySem.W.findIn K (.ref C) "__ne__" = some (some (.builtin "object.__ne__"))) (hs : PySem.W.findIn K (.ref C) "__eq__" = some (some (.ref f))) (hf : PySem.W.isFn K (.ref f) = true)
    (h : wpAny (model prog w) A.in1 (call (.ref f) [.ref x, b]) (fun v s' => ∃ c, v = .bool c ∧ Q (.bool (!c)) s') E s) : wpAny (model prog w) A (richCompare .NotEq (.ref x) b) Q E s := by
  have one : wpAny (model prog w) A (tryCompare (.ref x) "__ne__" b) (fun r s' => ∃ v, r = some v ∧ Q v s') E s := by
    unfold tryCompare
    refine wpAny_bind (ifBound_objNe X I hne (wpAny_call (codeAny_call_builtin F.cmp_object.ne.plain F.cmpEntry_ne (PySem.W.check_slot F.cmpKind_ne F.cmpSplit_ne (I.type.andThen (PySem.W.looks_mroIn X hm)) (F.cmpArgs_ne _ _) (objNe_entry (A := A.in1) hu X I hs hf (wpAny_mono h (fun v s' hv => ?_) fun _ _ e => e))))))
    obtain ⟨c, rfl, hq⟩ := hv
    exact ⟨c, rfl, wpAny_pure ⟨_, rfl, hq⟩⟩
  unfold richCompare
  simp only [oneThing_ref, cmpInfo_NotEq]
  refine wpAny_holding (wpAny_bind (wpAny_cRoomFor (Nat.lt_of_succ_lt hu) ?_))
  refine wpAny_bind (I.type.here (wpAny_bind (hb.here ?_)))
  split
  · rename_i q
    have e : PySem.W.subIn K tb (.ref C) = some false := by
      rcases Bool.or_eq_true_iff.mp hn with e | e
      · rw [beq_iff_eq.mp e] at q; simp at q
      · exact beq_iff_eq.mp e
    refine wpAny_bind ((PySem.W.looks_subIn X e).here ?_)
    simp only [Bool.false_eq_true, if_false]
    refine wpAny_bind (wpAny_mono one (fun r s' z => ?_) fun _ _ e => e)
    obtain ⟨v, rfl, hq⟩ := z
    exact wpAny_pure hq
  · refine wpAny_bind (wpAny_pure ?_)
    simp only [Bool.false_eq_true, if_false]
    refine wpAny_bind (wpAny_mono one (fun r s' z => ?_) fun _ _ e => e)
    obtain ⟨v, rfl, hq⟩ := z
    exact wpAny_pure hq
end
section
variable {X : Cx} {CX : CXT} {C g : Addr} {n : Nat} {sp : Sp} {E : XK}
def rOwnNe (K : PySem.W.Frag) (C : Addr) (sp : Sp) (E : XK) : R2 := fun x y H Q => ∃ a dx vs b C' dy ws, x = .ref a ∧ y = .ref b ∧ SlX.Slt H a C dx vs ∧ SlX.Slt H b C' dy ws ∧ PySem.W.notFirst K C (.ref C') = true ∧ sp [x, y] H (fun z H' => ∃ c, z = .bl c ∧ Q (.bl (!c)) H') E
theorem op_ownNe (hm : PySem.W.mroIn X.K C (.type "object") = some true) (hne : PySem.W.findIn X.K (.ref C) "__ne__" = some (some (.builtin "object.__ne__"))) (hs : PySem.W.findIn X.K (.ref C) "__eq__" = some (some (.ref g))) (hf : PySem.W.isFn X.K (.ref g) = true) (F : FnR X.prog X.w X.K X.mg X.base CX n g sp)
    (hr : Room (n + 1) X.A) (hx : Passes CX X E) : OpR X (compareOp .NotEq) (rOwnNe X.K C sp E) := by
  intro pins s σ H x y v u Q I rx ry h
  obtain ⟨a, dx, vs, b, C', dy, ws, rfl, rfl, ha, hb, hn, q⟩ := h
  cases (show v = Value.ref a from rx)
  cases (show u = Value.ref b from ry)
  obtain ⟨sl, od, _, J, _⟩ := SlX.slt_inst I ha
  obtain ⟨sl', od', _, J', _⟩ := SlX.slt_inst I hb
  show wpAny _ _ (richCompare .NotEq (.ref a) (.ref b)) _ _ _
  have hu : X.A.units + 1 < cLine := by have := hr.un; omega
  refine cmp_Ne (tb := .ref C') hu I.kIn J J'.type hn hm hne hs hf ?_
  refine wpAny_mono (wpAny_call (SlX.run_at (us := [.ref a, .ref b]) (ws := [.ref a, .ref b]) F hr.in1 I.env0.in1 hx I (.cons rfl (.cons rfl .nil)) q)) (fun w s' z => ?_) fun _ _ x => x
  obtain ⟨z', H', I', rz, c, rfl, qz⟩ := z
  cases (show w = Value.bool c from rz)
  exact ⟨c, rfl, .bl (!c), H', I', rfl, qz⟩
end
def notM (m : M D) : M D := M.bind m fun x => M.bind (asB x) fun c => M.ret (.bl (!c))
def neC (c : Nat) (R : List D → M D) (x y : D) : M D := M.guard (isC c x && isC c y) (notM (R [x, y]))
section
variable {X : Cx} {a b e : Expr} {pos p p2 : Pos} {c : Nat} {C g : Addr} {k : Nat} {fd : FuncData} {ps : List Str} {f h : Env → M D}
theorem snd_ownNe {K : PySem.W.Frag} {mg : Str → Option Value} {R : List D → M D} (T : ClsAt K mg c C) : SndR K (rOwnNe K C (spD K 2 R) E0) (neC c R) := by
  intro G H b x y dx dy d b' Q rx ry fz ob e q
  obtain ⟨hc, e3⟩ := M.guard_some e
  obtain ⟨z, b1, e3, e4⟩ := M.bind_some e3
  obtain ⟨k, b2, e4, e5⟩ := M.bind_some e4
  obtain ⟨rfl, rfl⟩ := asB_some e4
  cases e5
  rw [Bool.and_eq_true] at hc
  obtain ⟨a, ax, vs, fs, rfl, rfl, hs, rl⟩ := isC_rp T hc.1 rx
  obtain ⟨a2, ax2, vs2, fs2, rfl, rfl, hs2, rl2⟩ := isC_rp T hc.2 ry
  refine ⟨a, ax, _, a2, C, ax2, _, rfl, rfl, slt_mono fz hs, slt_mono fz hs2, by simp [PySem.W.notFirst], G, b, [.obj c fs, .obj c fs2], .bl k, b', .cons rx (.cons ry .nil), rfl, fz, ob, e3, fun v G' H' n r => ?_⟩
  cases r
  exact ⟨k, rfl, q _ G' H' n (.bl _)⟩
theorem t_neO {R : List D → M D} (T : ClsAt X.K X.mg c C) (m : Meth X.K C "__eq__" g) (hm : PySem.W.mroIn X.K C (.type "object") = some true) (hne : PySem.W.findIn X.K (.ref C) "__ne__" = some (some (.builtin "object.__ne__"))) (F : FnOk X.prog X.w X.K X.mg X.base CX0 k g fd ps (spD X.K 2 R)) (bd : Binds X.K fd ps []) (hr : Room (k + 1) X.A) (ha : DE X a f) (hb : DE X b h) :
    DT X (.Compare a [.NotEq] [b] pos) (t2 (neC c R) f h) := t_cmp (op_ownNe (E := E0) hm hne m.at_ m.fn (raw1 F bd) hr pass0) (snd_ownNe T) ha hb (nomark _)
end
theorem q_neC (c : Nat) (R : List D → M D) (fs gs : List D) : neC c R (.obj c fs) (.obj c gs) = bnd (R [.obj c fs, .obj c gs]) fun x => bnd (asB x) fun k => M.ret (.bl (!k)) := by
  show M.guard ((c == c) && (c == c)) _ = _
  rw [beq_self_eq_true]; rfl
section
variable {X : Cx} {a b : Expr} {pos : Pos} {f g : Env → M D}
end
end DL
set_option Elab.async false
set_option maxRecDepth 100000
set_option autoImplicit false
set_option linter.unusedVariables false
set_option maxHeartbeats 4000000
namespace DL
open PySem L2 PySem.Spec PyProof.Rows
variable [TAB : TabList]
variable [EFF : Eff]
set_option linter.unusedSectionVars false
def minS : List (List Nat) → List Nat
  | [] => []
  | x :: r => r.foldl (fun m y => if y < m then y else m) x
theorem CmpOf.strs_lt {prog : Program} {w : World} {A : Around} {P : Nat → Value → Prop} (val : Nat → Str) (hval : ∀ i v, P i v → ∃ t, v = .str (val i) t) :
    CmpOf prog w A .Lt P (fun i j => decide ((val i).cps.toList < (val j).cps.toList)) := fun i j vi vj s Q E hi hj h => by
  obtain ⟨t, rfl⟩ := hval i vi hi
  obtain ⟨u, rfl⟩ := hval j vj hj
  exact richCompare_gives (op := .Lt) (typeIs_str s _ t) (typeIs_str s _ u) F.slot_str_lt F.entry_str_lt (F.args_str_lt_2 _ _) (gives_str_lt _ _ t u) (fun x => nomatch x) h
theorem best_fold (zs : List (List Nat)) (h : zs ≠ []) : ∀ k, k < zs.length → zs.getD (argBest (fun i j => decide (zs.getD i [] < zs.getD j [])) k) [] = minS (zs.take (k + 1)) ∧ argBest (fun i j => decide (zs.getD i [] < zs.getD j [])) k < zs.length
  | 0, hk => by
    cases zs with
    | nil => exact absurd rfl h
    | cons x r => exact ⟨rfl, by show 0 < _; simp⟩
  | k + 1, hk => by
    obtain ⟨ih, hl⟩ := best_fold zs h k (by omega)
    have e : argBest (fun i j => decide (zs.getD i [] < zs.getD j [])) (k + 1) = if decide (zs.getD (k + 1) [] < zs.getD (argBest (fun i j => decide (zs.getD i [] < zs.getD j [])) k) []) = true then k + 1 else argBest (fun i j => decide (zs.getD i [] < zs.getD j [])) k := rfl
    have tk : minS (zs.take (k + 1 + 1)) = if zs.getD (k + 1) [] < minS (zs.take (k + 1)) then zs.getD (k + 1) [] else minS (zs.take (k + 1)) := by
      have : zs.take (k + 1 + 1) = zs.take (k + 1) ++ [zs.getD (k + 1) []] := by
        rw [List.take_add_one, List.getElem?_eq_getElem hk, List.getD_eq_getElem?_getD, List.getElem?_eq_getElem hk]
        rfl
      rw [this]
      cases zs with
      | nil => exact absurd rfl h
      | cons x r =>
        rw [List.take_succ_cons]
        show (r.take k ++ [_]).foldl _ x = _
        rw [List.foldl_append]
        rfl
    rw [e, ih, tk]
    by_cases hlt : zs.getD (k + 1) [] < minS (zs.take (k + 1))
    · rw [if_pos (decide_eq_true hlt), if_pos hlt]
      exact ⟨rfl, hk⟩
    · rw [if_neg (by simpa using hlt), if_neg hlt]
      exact ⟨ih, hl⟩
section
variable {prog : Program} {w : World} {A : Around} {E : Value → Shared → Prop} {s : Shared} {l : Addr} {its : List Value} {zs : List (List Nat)} {Q : Value → Shared → Prop}
theorem min_strs (hh : A.handled = none) (hl : s.heap.IsList l its.toArray) (hne : zs ≠ []) (hlen : its.length = zs.length) (hv : ∀ (i : Nat) (v : Value), its[i]? = some v → ∃ t, v = .str ⟨(zs.getD i []).toArray⟩ t)
    (h : ∀ h' tk t, (∀ b o, s.heap.get? b = some o → h'.get? b = some o) → Q (.str ⟨(minS zs).toArray⟩ t) { s with heap := h', toks := tk }) : wpAny (model prog w) A (call (.builtin "min") [.ref l]) Q E s := by
  have hlt : l < s.heap.objs.size := by obtain ⟨_, e, _⟩ := hl; exact Heap.lt_size e
  refine call_min_walk (wpAny_pyIter_list hl ?_)
  have hpos : 0 < zs.length := List.length_pos_iff.mpr hne
  have bt : ∀ i j, decide ((⟨(zs.getD i []).toArray⟩ : Str).cps.toList < (⟨(zs.getD j []).toArray⟩ : Str).cps.toList) = decide (zs.getD i [] < zs.getD j []) := fun i j => rfl
  refine ⟨_, _, _, _, _, _, _, rfl, Walks.list (A := A.in1) hh _ l (Nat.ne_of_lt hlt) its.toArray, ⟨⟨_, Heap.get?_push_size _ rfl, rfl, rfl⟩, hl.push _⟩, fun b hb => ?_, by rw [List.size_toArray]; omega, CmpOf.strs_lt (fun i => ⟨(zs.getD i []).toArray⟩) (fun i v hP => hv i v (by simpa using hP)), fun v h' tk hP hk => ?_⟩
  · show b < (s.heap.push _).objs.size
    rw [Heap.size_push]
    rcases List.mem_cons.mp hb with rfl | hb
    · exact Nat.lt_succ_self _
    · rcases List.mem_cons.mp hb with rfl | hb
      · exact Nat.lt_succ_of_lt hlt
      · cases hb
  · have hold : ∀ b o, s.heap.get? b = some o → h'.get? b = some o := fun b o e => by
      refine hk b o (fun hm => ?_) (Heap.get?_push_of_some _ e)
      rcases List.mem_cons.mp hm with e1 | hm
      · exact absurd (e1 ▸ Heap.lt_size e) (Nat.lt_irrefl _)
      · cases hm
    rw [List.size_toArray, hlen] at hP
    obtain ⟨h1, h2⟩ := best_fold zs hne (zs.length - 1) (by omega)
    obtain ⟨t, rfl⟩ := hv _ v (by simpa using hP)
    have := h h' tk t hold
    rw [show zs.length - 1 + 1 = zs.length by omega, List.take_length] at h1
    rw [← h1] at this
    exact this
theorem min_two_strs {x y : List Nat} {t u : Tok} (hh : A.handled = none)
    (h : ∀ h' tk t', (∀ b o, s.heap.get? b = some o → h'.get? b = some o) → Q (.str ⟨(minS [x, y]).toArray⟩ t') { s with heap := h', toks := tk }) : wpAny (model prog w) A (call (.builtin "min") [.str ⟨x.toArray⟩ t, .str ⟨y.toArray⟩ u]) Q E s := by
  have hT : (s.heap.push { cls := .type "tuple", data := .seq #[.str ⟨x.toArray⟩ t, .str ⟨y.toArray⟩ u] }).IsTuple s.heap.objs.size #[.str ⟨x.toArray⟩ t, .str ⟨y.toArray⟩ u] := ⟨_, Heap.get?_push_size _ rfl, rfl, 0, rfl⟩
  refine call_min_two (wpAny_pyIter_tuple hT ?_)
  have hsz : (s.heap.push { cls := .type "tuple", data := .seq #[.str ⟨x.toArray⟩ t, .str ⟨y.toArray⟩ u] }).objs.size = s.heap.objs.size + 1 := Heap.size_push ..
  refine ⟨_, [_, s.heap.objs.size], [_], _, _, _, _, rfl, Walks.tuple (A := A.in1) hh _ s.heap.objs.size (by rw [hsz]; exact Nat.ne_of_lt (Nat.lt_succ_self _)) #[.str ⟨x.toArray⟩ t, .str ⟨y.toArray⟩ u],
    ⟨⟨_, Heap.get?_push_size _ rfl, rfl, rfl⟩, hT.push _⟩, fun c hc => ?_, by show 0 < 2; decide, CmpOf.strs_lt (fun i => ⟨([x, y].getD i []).toArray⟩) (fun i v hP => ?_), fun v h' tk hP hk => ?_⟩
  · show c < ((s.heap.push _).push _).objs.size
    rw [Heap.size_push, hsz]
    rcases List.mem_cons.mp hc with rfl | hc
    · rw [hsz]; exact Nat.lt_succ_self _
    · rcases List.mem_cons.mp hc with rfl | hc
      · exact Nat.lt_succ_of_lt (Nat.lt_succ_self _)
      · cases hc
  · match i, hP with
    | 0, hP => cases hP; exact ⟨t, rfl⟩
    | 1, hP => cases hP; exact ⟨u, rfl⟩
    | i + 2, hP => simp at hP
  · have hold : ∀ c o, s.heap.get? c = some o → h'.get? c = some o := fun c o e => by
      refine hk c o (fun hm => ?_) (Heap.get?_push_of_some _ (Heap.get?_push_of_some _ e))
      rcases List.mem_cons.mp hm with e1 | hm
      · have := Heap.lt_size e; rw [e1, hsz] at this; exact Nat.lt_irrefl _ (Nat.lt_of_succ_lt this)
      · cases hm
    obtain ⟨h1, h2⟩ := best_fold [x, y] (by simp) 1 (by simp)
    have hP' : (#[Value.str ⟨x.toArray⟩ t, .str ⟨y.toArray⟩ u])[argBest (fun i j => decide ([x, y].getD i [] < [x, y].getD j [])) 1]? = some v := hP
    generalize argBest (fun i j => decide ([x, y].getD i [] < [x, y].getD j [])) 1 = k at *
    have h1 : [x, y].getD k [] = minS [x, y] := h1
    match k, hP', h1 with
    | 0, hP', h1 =>
      cases hP'
      have := h h' tk t hold
      rw [← h1] at this
      exact this
    | 1, hP', h1 =>
      cases hP'
      have := h h' tk u hold
      rw [← h1] at this
      exact this
    | k + 2, hP', h1 => simp at hP'
end
section
variable {X : Cx} {e : Expr} {es : List Expr} {fa : Env → M (List D)} {p pos : Pos}
theorem cr_minS (hc : X.calm = true) : CallR X (.builtin "min") (fun vs H Q => (∃ x y : List Nat, vs = [V.str ⟨x.toArray⟩, .str ⟨y.toArray⟩] ∧ Q (.str ⟨(minS [x, y]).toArray⟩) H) ∨ ∃ (a : Addr) (zs : List (List Nat)), zs ≠ [] ∧ vs = [V.ref a] ∧ SqL X.K H a (zs.map fun z => V.str ⟨z.toArray⟩) ∧ Q (.str ⟨(minS zs).toArray⟩) H) := by
  intro pins s σ H vs us Q I r h
  rcases h with ⟨x, y, rfl, q⟩ | ⟨a, zs, hne, rfl, hs, q⟩
  · obtain ⟨u, w', rfl, ⟨t, rfl⟩, ⟨t', rfl⟩⟩ := vals2 r
    exact min_two_strs (I.ok.hd hc) fun h' tk t' hk => ⟨.str _, H, I.kept hk, ⟨_, rfl⟩, q⟩
  · obtain ⟨its, rv, hl, _⟩ := I.list hs
    rw [Vals.ref1 r]
    have hlen : its.length = zs.length := by rw [← rv.length, List.length_map]
    refine min_strs (I.ok.hd hc) hl.isList hne hlen (fun i v hv => ?_) fun h' tk t' hk => ⟨.str _, H, I.kept hk, ⟨_, rfl⟩, q⟩
    have hi : i < zs.length := by rw [← hlen]; exact (List.getElem?_eq_some_iff.mp hv).1
    obtain ⟨z, hz, rz⟩ := rv.get (i := i) (x := V.str ⟨(zs.getD i []).toArray⟩) (by rw [List.getElem?_map, List.getElem?_eq_getElem hi, List.getD_eq_getElem?_getD, List.getElem?_eq_getElem hi]; rfl)
    rw [hv] at hz
    cases hz
    exact rz
def minSK : Option (List (List Nat)) → M D
  | some (x :: r) => M.ret (.str (minS (x :: r)))
  | _ => M.fail
def minG : List D → M D
  | [.str x, .str y] => M.ret (.str (minS [x, y]))
  | [.lst (.str x :: r)] => minSK (asTs (.str x :: r))
  | xs => minF xs
theorem RpL.textsV {K : PySem.W.Frag} {G : Hp} {vs : List V} {ds : List D} {xs : List (List Nat)} (r : RpL K G vs ds) (h : asTs ds = some xs) : vs = xs.map fun x => V.str ⟨x.toArray⟩ := by
  have := RpL.texts r h
  rw [this, List.map_map]
  rfl
theorem snd_minG : SndC X.K (fun xs H Q => ((∃ x y : List Nat, xs = [V.str ⟨x.toArray⟩, .str ⟨y.toArray⟩] ∧ Q (.str ⟨(minS [x, y]).toArray⟩) H) ∨ ∃ (a : Addr) (zs : List (List Nat)), zs ≠ [] ∧ xs = [V.ref a] ∧ SqL X.K H a (zs.map fun z => V.str ⟨z.toArray⟩) ∧ Q (.str ⟨(minS zs).toArray⟩) H) ∨ ((∃ i j, xs = [.int i, .int j] ∧ Q (.int (if j < i then j else i)) H) ∨ rMin X.K xs H Q)) minG := by
  intro G H b vs ds d b' Q r fz ob e q
  unfold minG at e
  split at e
  · obtain ⟨v, w, rfl, r1, r2⟩ := r.two
    cases e
    cases r1
    cases r2
    exact .inl (.inl ⟨_, _, rfl, q _ G H (Nxt.refl fz ob) (.str _)⟩)
  · rename_i x r0
    obtain ⟨v, rfl, r1⟩ := r.one
    cases et : asTs (.str x :: r0) with
    | none => rw [et] at e; cases e
    | some zs =>
      rw [et] at e
      cases zs with
      | nil => cases e
      | cons z zs =>
        cases e
        cases r1 with
        | lst g rl => exact .inl (.inr ⟨_, z :: zs, by simp, rfl, SqL.of (by rw [fz _ _ g, rl.textsV et]), q _ G H (Nxt.refl fz ob) (.str _)⟩)
  · exact .inr (snd_min G H b vs _ d b' Q r fz ob e q)
theorem d_minG (hc : X.calm = true) (hg : Gl X "min") (hm : X.mg "min" = none) (ha : DA X (e :: es) fa) (he : starEach (e :: es) X.env = (false, eval e X.env) :: starEach es X.env := by rfl) (hpl : (backTo pos (starEach es X.env)).any (·.1) = false := by rfl) : DE X (.Call (.Name "min" p) (e :: es) [] pos) (eCall minG fa) :=
  d_callB ((cr_minS hc).or ((call_min2 hc).or (cr_min hc))) snd_minG hg hm (by decide +kernel) ha (he := he) (hpl := hpl)
theorem q_minG2 (i j : Int) : minG [.int i, .int j] = M.ret (.int (minZ i j)) := rfl
theorem q_minGs (x y : List Nat) : minG [.str x, .str y] = M.ret (.str (minS [x, y])) := rfl
theorem asTs_strs : ∀ xs : List (List Nat), asTs (xs.map D.str) = some xs
  | [] => rfl
  | x :: r => by
    show (match asTs (r.map D.str) with | some l => some (x :: l) | none => none) = _
    rw [asTs_strs r]
end
end DL
set_option Elab.async false
set_option maxRecDepth 100000
set_option autoImplicit false
set_option linter.unusedVariables false
set_option maxHeartbeats 4000000
namespace DL
open PySem L2 PySem.Spec PyProof.Rows
variable [TAB : TabList]
variable [EFF : Eff]
set_option linter.unusedSectionVars false
def leS (a b : List Nat) : Bool := !decide (b < a)
theorem leS_iff {a b : List Nat} : leS a b = true ↔ a ≤ b := by
  unfold leS
  rw [Bool.not_eq_true', decide_eq_false_iff_not]
  exact List.not_lt
def sortS (xs : List (List Nat)) : List (List Nat) := xs.mergeSort leS
def sortI (ns : List Int) : List Int := ns.mergeSort fun a b => decide (a ≤ b)
theorem leS_trans (a b c : List Nat) (h1 : leS a b = true) (h2 : leS b c = true) : leS a c = true := leS_iff.mpr (List.le_trans (leS_iff.mp h1) (leS_iff.mp h2))
theorem leS_total (a b : List Nat) : (leS a b || leS b a) = true := by
  rw [Bool.or_eq_true, leS_iff, leS_iff]
  exact List.le_total a b
theorem leS_anti {a b : List Nat} (h1 : leS a b = true) (h2 : leS b a = true) : a = b := by
  rcases List.le_iff_lt_or_eq.mp (leS_iff.mp h1) with h | h
  · exact absurd h (List.not_lt.mpr (leS_iff.mp h2))
  · exact h
theorem sortS_perm (xs : List (List Nat)) : (sortS xs).Perm xs := List.mergeSort_perm xs _
theorem sortS_pw (xs : List (List Nat)) : (sortS xs).Pairwise (fun a b => leS a b = true) := List.pairwise_mergeSort leS_trans leS_total xs
theorem sortS_uniq {xs ys : List (List Nat)} (h1 : ys.Perm xs) (h2 : ys.Pairwise (fun a b => leS a b = true)) : ys = sortS xs :=
  List.Perm.eq_of_pairwise (le := fun a b => leS a b = true) (fun a b _ _ => leS_anti) h2 (sortS_pw xs) (h1.trans (sortS_perm xs).symm)
theorem sortI_perm (ns : List Int) : (sortI ns).Perm ns := List.mergeSort_perm ns _
theorem sortI_pw (ns : List Int) : (sortI ns).Pairwise (· ≤ ·) := by
  have := List.pairwise_mergeSort (le := fun (a b : Int) => decide (a ≤ b)) (fun a b c h1 h2 => decide_eq_true (Int.le_trans (of_decide_eq_true h1) (of_decide_eq_true h2))) (fun a b => by
    rw [Bool.or_eq_true, decide_eq_true_iff, decide_eq_true_iff]
    exact Int.le_total a b) ns
  exact this.imp fun h => of_decide_eq_true h
theorem sortI_uniq {ns ms : List Int} (h1 : ms.Perm ns) (h2 : ms.Pairwise (· ≤ ·)) : ms = sortI ns :=
  List.Perm.eq_of_pairwise (le := fun (a b : Int) => a ≤ b) (fun a b _ _ => Int.le_antisymm) h2 (sortI_pw ns) (h1.trans (sortI_perm ns).symm)
section
open SrtO Srt
variable {prog : Program} {w : World} {A : Around} {E : Value → Shared → Prop} {s : Shared}
def ltSv (v u : Value) : Bool := decide ((strOf v).cps.toList < (strOf u).cps.toList)
theorem swo_str : Swo ltSv := by
  refine ⟨fun x y h => ?_, fun x y z h1 h2 => ?_⟩
  · have a := of_decide_eq_true (p := (strOf x).cps.toList < (strOf y).cps.toList) h
    exact decide_eq_false (p := (strOf y).cps.toList < (strOf x).cps.toList) (List.lt_asymm a)
  · have a := of_decide_eq_false (p := (strOf y).cps.toList < (strOf x).cps.toList) h1
    have b := of_decide_eq_false (p := (strOf z).cps.toList < (strOf y).cps.toList) h2
    exact decide_eq_false (p := (strOf z).cps.toList < (strOf x).cps.toList) (List.not_lt.mpr (List.le_trans (List.not_lt.mp a) (List.not_lt.mp b)))
theorem str_cmp {vs : List Value} {ss : List PySem.Str} (hI : StrsAre vs ss) : Cmp prog w A s oneType' (fun p => p.1 ∈ vs) (lt2 ltSv) := by
  intro p q hm hm'
  obtain ⟨a, t, e⟩ := hI.all _ hm
  obtain ⟨b, u, e'⟩ := hI.all _ hm'
  show wpAny (model prog w) A (keyLt' oneType' p.1 q.1) (fun r s' => s' = s ∧ r = ltSv p.1 q.1) (fun _ _ => False) s
  rw [e, e', keyLt'_oneType]
  exact oneLt_str ⟨rfl, rfl⟩
theorem strs_sortable {a : Addr} {vs : List Value} {ss : List PySem.Str} (hI : StrsAre vs ss) (h2 : 2 ≤ vs.length) : SortableO prog w A s a vs ltSv := by
  intro h' _
  refine ⟨oneType', fun Q E hq => ?_, str_cmp hI⟩
  match vs, hI, h2 with
  | v1 :: v2 :: rest, hI, _ =>
    rw [keyKind_strs hI]
    exact wpAny_pure hq
  | [], _, h => exact absurd h (by decide)
  | [v], _, h => exact absurd h (by simp)
theorem strs_out {vs out : List Value} {ss : List PySem.Str} (hI : StrsAre vs ss) (hs : Srtd ltSv out) (hb : Stb ltSv out vs) : StrsAre out (out.map strOf) ∧ (out.map strOf).Perm ss ∧ (out.map strOf).Pairwise (fun a b => ¬ b.cps.toList < a.cps.toList) := by
  refine ⟨strsAre_map out fun v hv => hI.all v (hb.perm.mem_iff.mp hv), ?_, ?_⟩
  · have q := hb.perm.map strOf
    rw [hI.strs] at q
    exact q
  · exact List.pairwise_map.mpr (hs.imp fun {x y} h => of_decide_eq_false (p := (strOf y).cps.toList < (strOf x).cps.toList) h)
end
section
variable {X : Cx}
def rSortedStr (K : PySem.W.Frag) : List V → Hp → VK → Prop := fun vs H Q => ∃ (a : Addr) (xs : List (List Nat)), vs = [V.ref a] ∧ SqL K H a (xs.map fun x => V.str ⟨x.toArray⟩) ∧ ∀ p : Addr, H p = none → Q (.ref p) (upd H p (.lst ((sortS xs).map fun x => V.str ⟨x.toArray⟩)))
theorem cr_sortedStr : CallR X (.builtin "sorted") (rSortedStr X.K) := by
  intro pins s σ H vs us Q I r h
  obtain ⟨a, xs, rfl, hs, q⟩ := h
  obtain ⟨its, rv, hl, hz⟩ := I.list hs
  rw [Vals.ref1 r]
  have rv' : Vals ((xs.map fun x => (⟨x.toArray⟩ : PySem.Str)).map V.str) its := by rw [List.map_map]; exact rv
  have hi := rv'.strs
  refine SrtO.sorted_ord swo_str hl.isList (by rw [← rv.length]; exact hz) (fun h2 h₁ a' _ _ => strs_sortable hi h2) fun out h1 h2 => ?_
  obtain ⟨k1, k2, k3⟩ := strs_out hi h1 h2
  obtain ⟨ep, he'⟩ := PyProof.Rows.sortedAll_at s.heap its out.toArray
  have e : out.map strOf = (sortS xs).map fun x => (⟨x.toArray⟩ : PySem.Str) := by
    have h1 : ((out.map strOf).map fun x => x.cps.toList) = sortS xs := by
      refine sortS_uniq ?_ ?_
      · have := k2.map fun x => x.cps.toList
        have e2 : ((fun x : PySem.Str => x.cps.toList) ∘ fun x : List Nat => (⟨x.toArray⟩ : PySem.Str)) = id := rfl
        rw [List.map_map (l := xs), e2, List.map_id] at this
        exact this
      · exact List.pairwise_map.mpr (k3.imp fun {x y} h => by unfold leS; rw [decide_eq_false h]; rfl)
    rw [← h1, List.map_map]
    have : ((fun x : List Nat => (⟨x.toArray⟩ : PySem.Str)) ∘ fun x : PySem.Str => x.cps.toList) = id := by
      funext x
      cases x
      simp
    rw [this, List.map_id]
  have hlen : ((out.map strOf).map V.str).length ≤ sizeLine := by
    rw [List.length_map, k2.length_eq, List.length_map]
    rw [List.length_map] at hz
    exact hz
  have ok : ObjOk X.prog X.w (upd H (s.heap.objs.size + 1) (.lst ((out.map strOf).map V.str))) _ (s.heap.objs.size + 1) (.lst ((out.map strOf).map V.str)) := ⟨hlen, out, ep, vals_of_strs k1, he'⟩
  have eq2 : (out.map strOf).map V.str = (sortS xs).map fun x => V.str ⟨x.toArray⟩ := by rw [e, List.map_map]; rfl
  rw [eq2] at ok
  exact ⟨.ref _, _, I.laid (t' := s.toks) (fun _ _ => PyProof.Rows.sortedAll_old) (Nat.le_succ _) ok, rfl, q _ (I.hok.fresh (Nat.le_succ _))⟩
def sortK : Option (List (List Nat)) → Option (List Int) → M (List D)
  | some xs, _ => M.ret ((sortS xs).map D.str)
  | none, some ns => M.ret ((sortI ns).map D.int)
  | none, none => M.fail
def sortedF : List D → M (List D)
  | [.lst ds] => sortK (asTs ds) (intsD ds)
  | _ => M.fail
theorem RpL.strsD {K : PySem.W.Frag} {G : Hp} : ∀ xs : List (List Nat), RpL K G (xs.map fun x => V.str ⟨x.toArray⟩) (xs.map D.str)
  | [] => .nil
  | x :: r => .cons (.str x) (RpL.strsD r)
theorem snd_sorted : SndCN X.K (fun xs H Q => rSortedStr X.K xs H Q ∨ rSortedI X.K xs H Q) sortedF := by
  intro G H b vs ds xs b' Q r fz ob e q
  unfold sortedF at e
  split at e
  · rename_i ds
    obtain ⟨v, rfl, r1⟩ := r.one
    cases r1 with
    | lst g rl =>
      cases et : asTs ds with
      | some ts =>
        rw [et] at e
        cases e
        refine .inl ⟨_, ts, rfl, SqL.of (by rw [fz _ _ g, rl.textsV et]), fun p hp => ?_⟩
        exact q p _ G _ (Nxt.newH fz ob hp) hp (gnone fz hp) upd_same (RpL.strsD _)
      | none =>
        rw [et] at e
        cases ei : intsD ds with
        | none => rw [ei] at e; cases e
        | some ns =>
          rw [ei] at e
          cases e
          refine .inr ⟨_, ns, rfl, SqL.of (by rw [fz _ _ g, intsD_of rl ei]), fun ns' p h1 h2 hp => ?_⟩
          rw [sortI_uniq h1 h2]
          exact q p _ G _ (Nxt.newH fz ob hp) hp (gnone fz hp) upd_same (RpL.ints _)
  · cases e
theorem dn_sorted {e : Expr} {fa : Env → M (List D)} {p pos : Pos} (hg : Gl X "sorted") (hm : X.mg "sorted" = none) (ha : DA X [e] fa) (he : starEach [e] X.env = (false, eval e X.env) :: starEach [] X.env := by rfl) : DN X (.Call (.Name "sorted" p) [e] [] pos) (nCall sortedF fa) :=
  dn_callB (cr_sortedStr.or cr_sortedI) snd_sorted hg hm (by decide +kernel) ha (he := he)
theorem sortedF_strs (xs : List (List Nat)) : sortedF [.lst (xs.map D.str)] = M.ret ((sortS xs).map D.str) := by
  show sortK (asTs _) _ = _
  rw [asTs_strs]
  rfl
theorem sortedF_ints {ns : List Int} (h : ns ≠ []) : sortedF [.lst (ns.map D.int)] = M.ret ((sortI ns).map D.int) := by
  cases ns with
  | nil => exact absurd rfl h
  | cons i r =>
    show sortK (asTs ((i :: r).map D.int)) (intsD ((i :: r).map D.int)) = _
    rw [intsD_map]
    rfl
end
section
variable {X : Cx} {a b : Expr} {pos : Pos} {f g : Env → M D}
end
end DL
set_option Elab.async false
set_option maxRecDepth 100000
set_option autoImplicit false
set_option linter.unusedVariables false
set_option maxHeartbeats 4000000
namespace DL
open PySem L2 PySem.Spec PyProof.Rows
variable [TAB : TabList]
variable [EFF : Eff]
set_option linter.unusedSectionVars false
section
variable {X : Cx} {k : Nat} {f : Addr} {fd : FuncData} {ps : List Str} {x : Str} {p pos : Pos} {Fn : List D → M D} {Fl : List D → M (List D)}
end
end DL
set_option Elab.async false
set_option maxRecDepth 100000
set_option autoImplicit false
set_option linter.unusedVariables false
set_option maxHeartbeats 4000000
namespace DL
open PySem L2 PySem.Spec PyProof.Rows
variable [TAB : TabList]
variable [EFF : Eff]
set_option linter.unusedSectionVars false
variable {X : Cx} {pos : Pos}
theorem ip_ext : PIp X .Add rExt2 := by
  intro pins s σ H x y v u Q I rx ry h
  exact iop_ext pins s σ H x y v u Q I rx ry h
theorem s_augExt (j : Nat) (ms : List Nat) {x : Str} {e : Expr} {f : Env → M (List D)} {pos' : Pos} (hN : X.N.Nodup) (hi : X.N[j]? = some x) (hx : Loc X.env.scope x) (he : DN X e f) (hf : X.fn x = true ∨ X.env.scope.names.lookup x = some .local := by first | exact .inl rfl | exact .inr rfl | assumption) :
    DS X (.AugAssign (.Name x pos') .Add e pos) (extM j ms f) := by
  refine PSimp (ps_aug hN hi hx he ip_ext hf) ?_
  rintro D σ H ⟨E, ρ, G, b, o, b', I, e, q⟩
  obtain ⟨ds, b1, e1, e2⟩ := M.bind_some e
  cases ej : (keepIf (ds.all DL.D.flat) ms ρ)[j]? with
  | none => rw [ej] at e2; cases e2
  | some s =>
    cases s with
    | none => rw [ej] at e2; cases e2
    | some s =>
      cases s with
      | val d => rw [ej] at e2; cases e2
      | tr o => rw [ej] at e2; cases e2
      | own xs =>
        rw [ej] at e2
        obtain ⟨hz, e3⟩ := M.guard_some e2
        cases e3
        obtain ⟨p, vs, h1, h2, h3, h4, h5, h6⟩ := I.ownL (keepIf_own ej)
        refine ⟨_, h1, ?_⟩
        refine ⟨_, _, b, ds, b', I.rs ms, I.gp2 ms, I.gpb ms, e1, fun pn ws G1 H1 n1 hp gn hh r => ?_⟩
        obtain ⟨G2, I2, r2, g2, _⟩ := I.afterN n1 r gn hp
        obtain ⟨p', vs', f1, f2, f3, f4, f5, f6⟩ := I2.ownL ej
        rw [h1] at f1
        cases f1
        refine ⟨p, pn, vs', ws, rfl, rfl, f4, hh, by rw [f5.length, r2.length]; exact of_decide_eq_true hz, ?_⟩
        have es : σ.set j (some (.ref p)) = σ := by
          apply List.ext_getElem?
          intro k
          rw [List.getElem?_set]
          split
          · rename_i hk
            subst hk
            rw [h1]
            have hj := (List.getElem?_eq_some_iff.mp h1).1
            rw [if_pos hj]
          · rfl
        show D.nx (σ.set j (some (.ref p))) _
        rw [es]
        exact q σ G2 _ (I2.mut ej h1 (f5.append r2))
end DL
set_option Elab.async false
set_option maxRecDepth 100000
set_option autoImplicit false
set_option linter.unusedVariables false
set_option maxHeartbeats 4000000
namespace DL
open PySem L2 PySem.Spec PyProof.Rows PySem.Calls PySem.NumText
variable [TAB : TabList]
variable [EFF : Eff]
set_option linter.unusedSectionVars false
end DL
set_option Elab.async false
set_option maxRecDepth 100000
set_option autoImplicit false
set_option linter.unusedVariables false
set_option maxHeartbeats 4000000
namespace DL
open PySem L2 PySem.Spec PyProof.Rows
variable [TAB : TabList]
variable [EFF : Eff]
set_option linter.unusedSectionVars false
section
open SrtO Srt
variable {X : Cx}
end
end DL
set_option Elab.async false
set_option maxRecDepth 100000
set_option autoImplicit false
set_option linter.unusedVariables false
set_option maxHeartbeats 4000000
namespace DL
open PySem L2 PySem.Spec PyProof.Rows
variable [TAB : TabList]
variable [EFF : Eff]
set_option linter.unusedSectionVars false
section
variable {X : Cx} {pos : Pos}
section
variable {a b : Expr} {f g : DL.Env → M D}
end
theorem q_flat_dct (ks : List Key) (ds : List D) : (D.dct ks ds).flat = false := rfl
theorem q_flat_dcT (ks : List (List Key)) (ds : List D) : (D.dcT ks ds).flat = false := rfl
end
end DL
set_option Elab.async false
set_option maxRecDepth 100000
set_option autoImplicit false
set_option linter.unusedVariables false
set_option maxHeartbeats 4000000
namespace DL
open PySem L2 PySem.Spec PyProof.Rows
variable [TAB : TabList]
variable [EFF : Eff]
set_option linter.unusedSectionVars false
inductive Src where
  | txt (x : Str) (t : Tok) | lst (a : Addr) | tup (a : Addr)
def Src.val : Src → Value
  | .txt x t => .str x t | .lst a => .ref a | .tup a => .ref a
def Src.own : Src → List Addr
  | .txt _ _ => [] | .lst a => [a] | .tup a => [a]
def Src.st (q : Src) (it : Addr) (i : Nat) (h : Heap) : Prop := match q with
  | .txt x t => h.IsStrIter it (strIterType x) x t i | .lst a => h.IsListIter it a i | .tup a => h.IsTupleIter it a i
def Src.has (K : PySem.W.Frag) (q : Src) (H : Hp) (xs : List V) : Prop := match q with
  | .txt x _ => xs = x.cps.toList.map fun c => V.str ⟨#[c]⟩ | .lst a => SqL K H a xs | .tup a => SqT K H a xs
section
variable {X : Cx} {pins : List (Addr × Obj)} {σ : L2.St} {H : Hp} {s : Shared}
end
inductive SrcV (K : PySem.W.Frag) (H : Hp) : V → (Tok → Src) → List V → Prop
  | txt (x : Str) : SrcV K H (.str x) (.txt x) (x.cps.toList.map fun c => V.str ⟨#[c]⟩)
  | lst {a : Addr} {xs : List V} (h : SqL K H a xs) : SrcV K H (.ref a) (fun _ => .lst a) xs
  | tup {a : Addr} {xs : List V} (h : SqT K H a xs) : SrcV K H (.ref a) (fun _ => .tup a) xs
theorem SrcV.at {X : Cx} {pins : List (Addr × Obj)} {σ : L2.St} {H : Hp} {s : Shared} (I : Inv X pins σ H s) {v : V} {u : Value} {f : Tok → Src} {xs : List V} (c : SrcV X.K H v f xs) (r : RelV v u) :
    ∃ t o B, u = (f t).val ∧ (f t).has X.K H xs ∧ Begins (f t).val o B ∧ B s.heap ∧ (∀ a ∈ (f t).own, a < s.heap.objs.size) ∧ ∀ (h : Heap) (it : Addr), h.get? it = some o → (f t).st it 0 h := by
  cases c with
  | txt x =>
    obtain ⟨t, rfl⟩ := r
    exact ⟨t, _, _, rfl, rfl, begins_text x t, trivial, (fun a ha => by cases ha), (fun h it e => ⟨_, e, rfl, rfl⟩)⟩
  | @lst a xs h =>
    cases r
    obtain ⟨its, rv, p, _⟩ := I.list h
    refine ⟨0, _, _, rfl, h, begins_list a its.toArray, p.isList, fun b hb => ?_, fun h it e => ⟨_, e, rfl, rfl⟩⟩
    rw [List.mem_singleton.mp hb]
    exact p.lt
  | @tup a xs h =>
    cases r
    obtain ⟨its, rv, p, _⟩ := I.tuple h
    refine ⟨0, _, _, rfl, h, begins_tuple a its.toArray, p, fun b hb => ?_, fun h it e => ⟨_, e, rfl, rfl⟩⟩
    rw [List.mem_singleton.mp hb]
    obtain ⟨o, ho, _⟩ := id p
    exact Heap.lt_size ho
end DL
set_option Elab.async false
set_option maxRecDepth 100000
set_option autoImplicit false
set_option linter.unusedVariables false
set_option maxHeartbeats 4000000
namespace DL
open PySem L2 PySem.Spec PyProof.Rows
variable [TAB : TabList]
variable [EFF : Eff]
set_option linter.unusedSectionVars false
section
variable {X : Cx} {c : Nat} {C : Addr} {e o : Expr} {es : List Expr} {f : Env → M D} {fa : Env → M (List D)} {p pos : Pos} {x : Str} {k : Nat} {g : Addr} {fd : FuncData} {ps : List Str} {n : Nat} {Fi : List D → M (List D)}
end
end DL
set_option Elab.async false
set_option maxRecDepth 100000
set_option autoImplicit false
set_option linter.unusedVariables false
set_option maxHeartbeats 4000000
namespace DL
open PySem L2 PySem.Spec PyProof.Rows
variable [TAB : TabList]
variable [EFF : Eff]
set_option linter.unusedSectionVars false
def memB {κ : Type} [DecidableEq κ] (ks : List κ) (j : κ) : Bool := decide (j ∈ ks)
theorem memB_iff {κ : Type} [DecidableEq κ] {ks : List κ} {j : κ} : memB ks j = true ↔ j ∈ ks := decide_eq_true_iff
theorem memB_snoc {κ : Type} [DecidableEq κ] (ks : List κ) (j z : κ) : memB (ks ++ [z]) j = (memB ks j || decide (j = z)) := by
  rw [Bool.eq_iff_iff, memB_iff, Bool.or_eq_true, memB_iff, decide_eq_true_iff, List.mem_append, List.mem_singleton]
theorem memB_nil {κ : Type} [DecidableEq κ] (j : κ) : memB [] j = false := by
  rw [Bool.eq_false_iff]
  intro h
  exact absurd (memB_iff.mp h) (by simp)
def keyK (e : Int × Value) : Key := match e.2 with
  | .int k _ => .inl k
  | .str x _ => .inr x
  | _ => .inl 0
def GoodK (w : World) (e : Int × Value) : Prop := ∃ k : Key, RelV (kV k) e.2 ∧ e.1 = keyH w k
theorem keyK_of {k : Key} {i : Int} {u : Value} (r : RelV (kV k) u) : keyK (i, u) = k := by
  cases k with
  | inl n => obtain ⟨t, rfl⟩ := r; rfl
  | inr x => obtain ⟨t, rfl⟩ := r; rfl
def SetQ (w : World) (h : Heap) (a : Addr) (S : Key → Bool) (n : Nat) : Prop :=
  ∃ o es ep t, h.get? a = some o ∧ o.ExactSet ∧ o.data = .set es ep t ∧ (∀ e ∈ es.toList, GoodK w e) ∧ (es.toList.map keyK).Nodup ∧ (∀ k, S k = true ↔ k ∈ es.toList.map keyK) ∧
    es.size < scanBound ∧ t.fits es.size = true ∧ es.size = n ∧ Ris t.place.toList ∧ (w.params.followText "set-order" = true ∨ t.led = true)
section
variable {P : Program} {w : World} {h h' : Heap} {a : Addr} {S : Key → Bool} {n : Nat}
theorem SetQ.at (R : SetQ w h a S n) (k : ∀ o, h.get? a = some o → h'.get? a = some o) : SetQ w h' a S n := by
  obtain ⟨o, es, ep, t, ho, r⟩ := R
  exact ⟨o, es, ep, t, k o ho, r⟩
theorem SetQ.congr {S' : Key → Bool} (R : SetQ w h a S n) (e : ∀ k, S' k = S k) : SetQ w h a S' n := by
  have q : S' = S := funext e
  rw [q]; exact R
theorem goodK_elems {l : List (Int × Value)} (g : ∀ e ∈ l, GoodK w e) : ElemsOf (mixKind P w) l := fun e he => by
  obtain ⟨k, r, h2⟩ := g e he
  exact ⟨⟨k, kV_is r, h2⟩, key_scan r⟩
theorem goodK_is {e : Int × Value} (g : GoodK w e) (k : Key) : (mixKind P w).is k e.2 = true ↔ keyK e = k := by
  obtain ⟨k0, r, _⟩ := g
  have e0 : keyK e = k0 := keyK_of (i := e.1) r
  rw [e0]
  constructor
  · intro q
    exact (mixKind P w).inj _ _ _ (kV_is r) q
  · rintro rfl
    exact kV_is r
theorem goodK_mem {l : List (Int × Value)} (g : ∀ e ∈ l, GoodK w e) (k : Key) : k ∈ l.map keyK ↔ ∃ e ∈ l, (mixKind P w).is k e.2 = true := by
  rw [List.mem_map]
  constructor
  · rintro ⟨e, he, q⟩
    exact ⟨e, he, (goodK_is (g e he) k).2 q⟩
  · rintro ⟨e, he, q⟩
    exact ⟨e, he, (goodK_is (g e he) k).1 q⟩
theorem SetQ.setOf (R : SetQ w h a S n) : h.SetOf (mixKind P w) a S n := by
  obtain ⟨o, es, ep, t, ho, hx, hd, g, nd, hm, hb, hf, hn, _⟩ := R
  exact ⟨o, es, ep, t, ho, hx, hd, goodK_elems g, fun k => (hm k).trans (goodK_mem g k), hb, hf, hn⟩
end
section
variable {P : Program} {w : World} {A : Around} {E : Value → Shared → Prop} {s : Shared} {a : Addr} {S : Key → Bool} {n : Nat}
theorem setQ_add_tail {g : Bool → Sem Unit} (hg : ∀ (b : Bool) (s₁ : Shared) (Q' : Unit → Shared → Prop), Q' () s₁ → wpAny (model P w) A (g b) Q' E s₁)
    {o : Obj} {es : Array (Int × Value)} {ep : Nat} {t : SetTable} (ho : s.heap.get? a = some o) (hex : o.ExactSet) (hd : o.data = .set es ep t)
    {es1 : Array (Int × Value)} {t2 : SetTable} {S' : Key → Bool} (g1 : ∀ e ∈ es1.toList, GoodK w e) (nd1 : (es1.toList.map keyK).Nodup) (m1 : ∀ k, S' k = true ↔ k ∈ es1.toList.map keyK)
    (hb1 : es1.size < scanBound) (hf2 : t2.fits es1.size = true) (hr : Ris t2.place.toList) (hl : w.params.followText "set-order" = true ∨ t2.led = true) {wasDummy : Bool} {R : Option Bool → Shared → Prop}
    (hR : ∀ h', Heap.SameBut a s.heap h' → SetQ w h' a S' es1.size → R (some true) { s with heap := h' }) :
    wpAny (model P w) A (do
        storeSet a es1 t2
        if (!wasDummy && t2.tooFull) = true then do
            g (relayAll t2 es1 (SetTable.grown es1.size)).2.2
            storeSet a (relayAll t2 es1 (SetTable.grown es1.size)).1 (relayAll t2 es1 (SetTable.grown es1.size)).2.1
            pure (some true)
          else pure (some true)) R E s := by
  refine wpAny_bind (wpAny_storeSet_of ho hd ?_ (fits_of_scanBound hb1))
  have ho1 := store_at (es' := es1) (t' := t2) ho hd
  have sb1 := Heap.SameBut.update s.heap a (Obj.putSet es1 t2)
  split
  · have pm := relayAll_perm t2 es1 (SetTable.grown es1.size)
    have hf3 := relayAll_fits t2 es1 (SetTable.grown es1.size)
    have hr3 := relayAll_ris t2 es1 (SetTable.grown es1.size)
    have hl3 := relayAll_led t2 es1 (SetTable.grown es1.size)
    generalize relayAll t2 es1 (SetTable.grown es1.size) = Z at pm hf3 hr3 hl3 ⊢
    obtain ⟨es2, t3, gave⟩ := Z
    dsimp only at pm hf3 hr3 hl3 ⊢
    have hsz : es2.size = es1.size := by rw [← Array.length_toList, pm.length_eq, Array.length_toList]
    have hb2 : es2.size < scanBound := by rw [hsz]; exact hb1
    refine wpAny_bind (hg _ _ _ ?_)
    refine wpAny_bind (wpAny_storeSet_of ho1 rfl ?_ (fits_of_scanBound hb2))
    have ho2 := store_at (es' := es2) (t' := t3) ho1 rfl
    refine wpAny_pure (hR _ (sb1.trans (Heap.SameBut.update _ a _)) ?_)
    exact ⟨_, es2, _, t3, ho2, hex, rfl, fun e he => g1 e (pm.mem_iff.mp he), (pm.map keyK).nodup_iff.mpr nd1, fun k => (m1 k).trans (pm.map keyK).mem_iff.symm, hb2, hf3, hsz, hr3,
      hl.imp id fun z => by rw [hl3]; exact z⟩
  · exact wpAny_pure (hR _ sb1 ⟨_, es1, _, t2, ho1, hex, rfl, g1, nd1, m1, hb1, hf2, rfl, hr, hl⟩)
theorem setQ_add_hashed {k : Key} {u : Value} {Q : Bool → Shared → Prop} (ru : RelV (kV k) u) (R : SetQ w s.heap a S n) (room : n + 1 < scanBound)
    (hQ : ∀ h', Heap.SameBut a s.heap h' → SetQ w h' a (fun j => S j || decide (j = k)) (if S k = true then n else n + 1) → Q (!S k) { s with heap := h' }) :
    wpAny (model P w) A (setAddHashed a u ((mixKind P w).hash k)) Q E s := by
  obtain ⟨o, es, ep, t, ho, hex, hd, g, nd, hm, hb, hf, hn, hr, hl⟩ := R
  have hkey : (mixKind P w).is k u = true := kV_is ru
  have hsc : u.scannable = true := key_scan ru
  have hel : ElemsOf (mixKind P w) es.toList := goodK_elems g
  unfold setAddHashed setAddHashedIn
  refine wpAny_holding (wpAny_bind (wpAny_setState_of ho hd hf ?_))
  dsimp only
  rw [byScan_of hsc hb hel]
  simp only [↓reduceIte]
  unfold setAddByScan
  refine wpAny_bind ?_
  refine wpAny_bind (wpAny_rule ?_)
  refine wpAny_bind (wpAny_setScan_of hkey ho hd hf hel ?_)
  cases hfi : List.findIdx? (fun e => (mixKind P w).is k e.2) es.toList with
  | some j =>
    dsimp only
    obtain ⟨hj, pj, _⟩ := List.findIdx?_eq_some_iff_getElem.mp hfi
    have hSk : S k = true := (hm k).2 ((goodK_mem (P := P) (w := w) g k).2 ⟨es.toList[j], List.getElem_mem hj, pj⟩)
    refine wpAny_pure (wpAny_pure ?_)
    have q := hQ s.heap (Heap.SameBut.refl a s.heap) ⟨o, es, ep, t, ho, hex, hd, g, nd, fun i => by
      rw [Bool.or_eq_true, decide_eq_true_eq, ← hm i]
      exact ⟨fun z => z.elim id (fun e => e ▸ hSk), .inl⟩, hb, hf, by rw [if_pos hSk]; exact hn, hr, hl⟩
    rw [hSk] at q
    exact q
  | none =>
    dsimp only
    have hnk : k ∉ es.toList.map keyK := fun z => by
      obtain ⟨e, he, q⟩ := (goodK_mem (P := P) (w := w) g k).1 z
      have c := List.findIdx?_eq_none_iff.mp hfi e he
      rw [q] at c
      cases c
    have hSk : S k = false := by
      cases q : S k with
      | false => rfl
      | true => exact absurd ((hm k).1 q) hnk
    have hgw : ∀ (b : Bool) {s₁ : Shared} {Q' : Unit → Shared → Prop}, Q' () s₁ → wpAny (model P w) A (match b with | true => rule "set.scan.the-table-gave-way" | false => pure ()) Q' E s₁ :=
      fun b s₁ Q' q => by cases b <;> first | exact wpAny_pure q | exact wpAny_rule q
    have pm := layNew_perm t es ((mixKind P w).hash k) u
    have hf1 := layNew_fits t es ((mixKind P w).hash k) u
    have hr1 := layNew_ris t es ((mixKind P w).hash k) u hr
    have hl1 := layNew_led t es ((mixKind P w).hash k) u
    generalize layNew t es ((mixKind P w).hash k) u = Z at pm hf1 hr1 hl1 ⊢
    obtain ⟨es1, t1, wasDummy, gave⟩ := Z
    dsimp only at pm hf1 hr1 hl1 ⊢
    rw [Array.toList_push] at pm
    have pc : es1.toList.Perm (((mixKind P w).hash k, u) :: es.toList) := pm.trans (List.perm_append_singleton _ _)
    have pk : (es1.toList.map keyK).Perm (k :: es.toList.map keyK) := by
      have q := pc.map keyK
      rw [List.map_cons, keyK_of ru] at q
      exact q
    have g1 : ∀ e ∈ es1.toList, GoodK w e := fun e he => by
      rcases List.mem_cons.mp (pc.mem_iff.mp he) with z | z
      · rw [z]; exact ⟨k, ru, rfl⟩
      · exact g e z
    have nd1 : (es1.toList.map keyK).Nodup := pk.nodup_iff.mpr (List.nodup_cons.mpr ⟨hnk, nd⟩)
    have m1 : ∀ i, (S i || decide (i = k)) = true ↔ i ∈ es1.toList.map keyK := fun i => by
      rw [Bool.or_eq_true, decide_eq_true_eq, hm i, pk.mem_iff, List.mem_cons]
      exact Or.comm
    have hsz : es1.size = n + 1 := by rw [← Array.length_toList, pc.length_eq, List.length_cons, Array.length_toList, hn]
    have hb1 : es1.size < scanBound := by rw [hsz]; exact room
    have hled : w.params.followText "set-order" = true ∨ t1.led = true := hl.imp id fun z => by rw [hl1]; exact z
    have fin : ∀ h', Heap.SameBut a s.heap h' → SetQ w h' a (fun j => S j || decide (j = k)) es1.size → Q true { s with heap := h' } := fun h' sb r => by
      have q := hQ h' sb
      rw [hSk] at q
      rw [hsz] at r
      exact q r
    refine wpAny_bind (hgw _ ?_)
    split
    · refine wpAny_bind ?_
      rw [hashByValue_scannable 8 hsc]
      refine wpAny_pure ?_
      refine setQ_add_tail ?_ ho hex hd g1 nd1 m1 hb1 ?_ ?_ ?_ ?_
      · intro b s₁ Q' q; cases b <;> first | exact wpAny_pure q | exact wpAny_rule q
      · first | (split <;> first | exact hf1 | exact SetTable.fits_plain_off hf1) | exact hf1
      · first | (split <;> exact hr1) | exact hr1
      · first | (split <;> exact hled) | exact hled
      · intro h' sb r; dsimp only; exact wpAny_pure (fin h' sb r)
    · refine wpAny_bind (wpAny_pure ?_)
      simp only [↓reduceIte]
      refine setQ_add_tail ?_ ho hex hd g1 nd1 m1 hb1 hf1 hr1 hled ?_
      · intro b s₁ Q' q; cases b <;> first | exact wpAny_pure q | exact wpAny_rule q
      · intro h' sb r; dsimp only; exact wpAny_pure (fin h' sb r)
theorem setQ_add {k : Key} {u : Value} {Q : Value → Shared → Prop} (ru : RelV (kV k) u) (R : SetQ w s.heap a S n) (room : n + 1 < scanBound)
    (hQ : ∀ h' tk, Heap.SameBut a s.heap h' → SetQ w h' a (fun j => S j || decide (j = k)) (if S k = true then n else n + 1) → Q .none { s with heap := h', toks := tk }) :
    wpAny (model P w) A (call (.builtin "set.add") [.ref a, u]) Q E s := by
  have hS : s.heap.SetOf (mixKind P w) a S n := R.setOf
  refine wpAny_call_entry F.slot_set_add hS.typeIs F.entry_set_add ?_ (F.args_set_add_2 _ _)
  unfold Builtin.«set.add» Builtin.Frozenset.oneOther
  simp only [List.isEmpty_nil, bind_assoc]
  unfold Builtin.Frozenset.addrOf setAdd
  refine wpAny_bind (wpAny_pure ?_)
  try dsimp only
  refine wpAny_bind (wpAny_pure ?_)
  try dsimp only
  refine wpAny_bind ?_
  refine wpAny_holding ?_
  refine wpAny_bind ((mixKind P w).pyHash (kV_is ru) ?_)
  refine setQ_add_hashed (s := { s with toks := s.toks + 1 }) ru R room fun h' sb r => ?_
  show wpAny _ _ (ret Value.none) _ _ _
  exact wpAny_pure ⟨_, rfl, hQ h' _ sb r⟩
abbrev emptySet (w : World) : Obj := { cls := .type "set", dict := none, data := .set #[] 0 (.fresh 0 0 (!w.params.followText "set-order")) }
theorem setQ_new_at {h : Heap} {a : Addr} {ks : List Key} (ho : h.get? a = some (emptySet w)) : SetQ w h a (fun j => memB (ks.take 0) j) 0 :=
  ⟨_, #[], 0, _, ho, ⟨rfl, rfl, rfl⟩, rfl, (fun e he => by simp at he), (by simp), (fun k => by show memB (ks.take 0) k = true ↔ _; rw [List.take_zero, memB_nil]; simp), (by decide), (by rfl), rfl, List.Pairwise.nil, by
    show _ ∨ (!w.params.followText "set-order") = true
    cases w.params.followText "set-order"
    · exact .inr rfl
    · exact .inl rfl⟩
theorem set_update_keys {I : Addr} {fp wr : List Addr} {G : Array GenState → Array GenState → Prop} {n : Nat} {Pv : Nat → Value → Prop} {St : Nat → Shared → Prop} {R : Result → Shared → Prop}
    (W : WalksS P w A.in1 I fp wr G n Pv St) (S : Addr) (hSf : S ∉ fp) (ks : List Key) (hn : n = ks.length) (hb : ks.length + 1 < scanBound) (hval : ∀ i v, Pv i v → ∃ k, ks[i]? = some k ∧ RelV (kV k) v) :
    ∀ (k i : Nat) (s : Shared), n - i = k → i ≤ n → St i s → (∃ c, c ≤ i ∧ SetQ w s.heap S (fun j => memB (ks.take i) j) c) →
      (∀ s' c, Moved (S :: wr) G s s' → c ≤ n → SetQ w s'.heap S (fun j => memB ks j) c → R (.ok (.ret .none)) s') →
      codeAny (model P w) A (.builtin "set.update.loop" ⟨[.ref S, .ref I], []⟩) R s := by
  have hSw : S ∉ wr := fun h => hSf (W.sub _ h)
  have hsub : ∀ b ∈ wr, b ∈ S :: wr := fun b hb => List.mem_cons_of_mem _ hb
  intro k
  induction k with
  | zero =>
    intro i s hk' hi hst ⟨c, hc, hS⟩ hR
    have hin : i = n := by omega
    subst hin
    refine codeAny_builtin F.entry_set_update_loop ?_
    rw [Around.under_plainId F.plain_set_update_loop _]
    show wpAny _ A.in1 (pyNext (.ref I) >>= _) _ _ s
    refine wpAny_bind (W.done s _ _ hst fun s' hm => ?_)
    show wpAny _ A.in1 (ret Value.none) _ _ s'
    have e : ks.take i = ks := List.take_of_length_le (by omega)
    rw [e] at hS
    exact wpAny_pure (hR s' c (hm.mono hsub) hc (hS.at fun o e => hm.heap S o hSw e))
  | succ k ih =>
    intro i s hk' hi hst ⟨c, hc, hS⟩ hR
    have hlt : i < n := by omega
    refine codeAny_builtin F.entry_set_update_loop ?_
    rw [Around.under_plainId F.plain_set_update_loop _]
    show wpAny _ A.in1 (pyNext (.ref I) >>= _) _ _ s
    refine wpAny_bind (W.item i s _ _ hlt hst fun v s' hP hst' hm => ?_)
    obtain ⟨z, hz, rz⟩ := hval i v hP
    have hS' : SetQ w s'.heap S (fun j => memB (ks.take i) j) c := hS.at fun o e => hm.heap S o hSw e
    show wpAny _ A.in1 (holding [v] (setAdd S v) >>= _) _ _ s'
    refine wpAny_bind (wpAny_holding ?_)
    unfold setAdd
    refine wpAny_holding ?_
    refine wpAny_bind ((mixKind P w).pyHash (k := z) (kV_is rz) ?_)
    refine setQ_add_hashed (s := { s' with toks := s'.toks + 1 }) rz hS' (by omega) fun h' hsb hS2 => ?_
    have hS3 : SetQ w h' S (fun j => memB (ks.take (i + 1)) j) (if memB (ks.take i) z = true then c else c + 1) := hS2.congr fun j => by
      rw [List.take_add_one, hz]
      exact memB_snoc _ _ _
    have hc3 : (if memB (ks.take i) z = true then c else c + 1) ≤ i + 1 := by
      split <;> omega
    refine wpAny_pure ⟨plainId_quiet F.plain_set_update_loop _, ih (i + 1) _ (by omega) hlt (W.frame _ s' _ _ hst' (Nat.le_succ _) fun b hb o e => ?_) ⟨_, hc3, hS3⟩ fun s'' c2 hm'' hc'' hS'' => ?_⟩
    · rw [hsb.2 b (fun h : b = S => hSf (by rw [← h]; exact hb))]; exact e
    · refine hR s'' c2 (Moved.trans W.gtrans ((hm.mono hsub).then_heap (Nat.le_succ _) fun b o hb e => ?_) hm'') hc'' hS''
      rw [hsb.2 b (fun h : b = S => hb (by rw [h]; exact List.mem_cons_self))]; exact e
set_option maxRecDepth 100000 in
set_option maxHeartbeats 3200000 in
theorem call_setQ_list {l : Addr} {items : Array Value} (ks : List Key) {Q : Value → Shared → Prop} (hh : A.handled = none) (hl : s.heap.IsList l items) (hit : items.size = ks.length) (hval : ∀ (i : Nat) (v : Value), items[i]? = some v → ∃ k, ks[i]? = some k ∧ RelV (kV k) v) (hb : ks.length + 1 < scanBound)
    (h : ∀ (h' : Heap) (tk c : Nat), SetQ w h' s.heap.objs.size (fun j => memB ks j) c → c ≤ ks.length → (∀ b o, s.heap.get? b = some o → h'.get? b = some o) → Q (.ref s.heap.objs.size) { s with heap := h', toks := tk }) :
    wpAny (model P w) A (call (.type "set") [.ref l]) Q E s := by
  obtain ⟨c, tl, hmro⟩ := F.called_set.mro
  have hmade := F.called_set.made
  have hsub := F.called_set.sub
  refine wpAny_call (codeAny_of_tree ?_)
  show wpAny _ _ (callAny (.type "set") _) _ _ _
  refine wpAny_pure ⟨Code.quiet_builtin _ (by decide +kernel), codeAny_builtin F.entry_type_call ?_⟩
  rw [Around.under_plain (weight_type_call_type "set" [.ref l] []) rfl]
  have h1 := F.called_set.notType
  have h2 := F.called_set.canCreate
  have hct := F.typeCall_set_1 (.ref l)
  repeat (any_goals (first | assumption | wp_step))
  refine codeAny_mono (code_set_led1 (.ref l) (E := E) (Q₁ := fun obj s₁ => obj = .ref s.heap.objs.size ∧ s₁ = { s with heap := s.heap.push (emptySet w) }) ⟨rfl, rfl⟩) fun r s₁ hr => ?_
  cases r with
  | error e => exact hr
  | ok fl =>
    cases fl with
    | ret obj =>
      obtain ⟨rfl, rfl⟩ := hr
      have hS : (s.heap.push (emptySet w)).get? s.heap.objs.size = some (emptySet w) := Heap.get?_push_size _ rfl
      have hT : Shared.TypeIs { s with heap := s.heap.push (emptySet w) } (.ref s.heap.objs.size) "set" := ⟨_, hS, rfl⟩
      have hli := F.called_set.init.lookup
      have hbi := F.called_set.init.bind (.ref s.heap.objs.size)
      repeat (any_goals (first | assumption | wp_step))
      refine codeAny_mono (codeAny_call_builtin (R := wants (fun r s₂ => r = .none ∧ ∃ h' tk c, s₂ = { s with heap := h', toks := tk } ∧ SetQ w h' s.heap.objs.size (fun j => memB ks j) c ∧ c ≤ ks.length ∧
          (∀ b o, s.heap.get? b = some o → h'.get? b = some o)) E) F.called_set.init.plain F.entry_set_init (check_set_init_1 hT ?_)) fun r₂ s₂ hr₂ => ?_
      · obtain ⟨ol, hol, hcl, nl, hdl⟩ := hl
        obtain ⟨ocls, odict, odata, oslots⟩ := ol
        simp only at hcl hdl
        subst hcl; subst hdl
        have hol' : (s.heap.push (emptySet w)).get? l = some { cls := .type "list", dict := odict, data := .seq items nl, slots := oslots } := Heap.get?_push_of_some _ hol
        have hsls := PySem.F.sub_list_set
        have hslf := PySem.F.sub_list_frozenset
        have hne : (Value.type "list" == Value.type "dict") = false := by decide
        have hl1 : (s.heap.push (emptySet w)).IsList l items := ⟨_, hol', rfl, nl, rfl⟩
        unfold Builtin.«set.__init__» noKeywords Builtin.Frozenset.updateFrom
        generalize hPI : pyIter = PI
        wp_walk
        subst hPI
        refine wpAny_pyIter_list hl1 ?_
        refine wpAny_bind (wpAny_runValue ?_)
        have hlS : l < s.heap.objs.size := Heap.lt_size hol
        have hh3 : A.in1.in1.in1.handled = none := by simp [hh]
        have hneI : l ≠ (s.heap.push (emptySet w)).objs.size := by
          rw [Heap.size_push]; exact Nat.ne_of_lt (Nat.lt_succ_of_lt hlS)
        have hSf : s.heap.objs.size ∉ [(s.heap.push (emptySet w)).objs.size, l] := by
          rw [Heap.size_push]; simp only [List.mem_cons, List.mem_singleton, List.not_mem_nil, or_false, not_or]
          exact ⟨Nat.ne_of_lt (Nat.lt_succ_self _), Nat.ne_of_gt hlS⟩
        refine set_update_keys ((Walks.list hh3 _ l hneI items).toS) s.heap.objs.size
          hSf ks hit hb hval (items.size - 0) 0 _ (by omega) (Nat.zero_le _)
          ⟨⟨_, Heap.get?_push_size _ rfl, rfl, rfl⟩, (hl1.push _)⟩ ?hS0 ?hR
        case hS0 =>
          have hget : ((s.heap.push (emptySet w)).push { cls := .type "list_iterator", data := .fields #[.ref l, .int 0 0] }).get? s.heap.objs.size = some (emptySet w) := Heap.get?_push_of_some _ hS
          exact ⟨0, Nat.le_refl 0, setQ_new_at hget⟩
        case hR =>
          intro s' c' hm hc' hS'
          obtain ⟨h', g2, d', tk', os'⟩ := s'
          have eg : g2 = s.gens := hm.gens
          have ed : d' = s.drawn := hm.drawn
          have eo : os' = s.os := hm.os
          subst eg; subst ed; subst eo
          show wpAny _ _ _ _ _ _
          refine wpAny_pure ?_
          show wpAny _ _ (ret Value.none) _ _ _
          rw [hit] at hc'
          refine wpAny_pure ⟨rfl, h', tk', c', rfl, hS', hc', fun b o e => ?_⟩
          have hb0 : b < s.heap.objs.size := Heap.lt_size e
          have hb1 : b ≠ s.heap.objs.size := Nat.ne_of_lt hb0
          have hb2 : b ≠ (s.heap.push (emptySet w)).objs.size := by
            rw [Heap.size_push]; exact Nat.ne_of_lt (Nat.lt_succ_of_lt hb0)
          exact hm.heap b o (by simp only [List.mem_cons, List.mem_singleton, List.not_mem_nil, or_false, not_or]; exact ⟨hb1, hb2⟩) (Heap.get?_push_of_some _ (Heap.get?_push_of_some _ e))
      · cases r₂ with
        | error e => exact hr₂
        | ok fl₂ =>
          cases fl₂ with
          | ret r =>
            obtain ⟨rfl, h', tk, c', rfl, hS', hc', hk'⟩ := hr₂
            repeat (any_goals (first | assumption | wp_step))
            exact h _ _ _ hS' hc' hk'
          | _ => exact hr₂.elim
    | _ => exact hr.elim
set_option maxRecDepth 100000 in
set_option maxHeartbeats 3200000 in
theorem call_setQ_tuple {l : Addr} {items : Array Value} (ks : List Key) {Q : Value → Shared → Prop} (hh : A.handled = none) (hl : s.heap.IsTuple l items) (hit : items.size = ks.length) (hval : ∀ (i : Nat) (v : Value), items[i]? = some v → ∃ k, ks[i]? = some k ∧ RelV (kV k) v) (hb : ks.length + 1 < scanBound)
    (h : ∀ (h' : Heap) (tk c : Nat), SetQ w h' s.heap.objs.size (fun j => memB ks j) c → c ≤ ks.length → (∀ b o, s.heap.get? b = some o → h'.get? b = some o) → Q (.ref s.heap.objs.size) { s with heap := h', toks := tk }) :
    wpAny (model P w) A (call (.type "set") [.ref l]) Q E s := by
  obtain ⟨c, tl, hmro⟩ := F.called_set.mro
  have hmade := F.called_set.made
  have hsub := F.called_set.sub
  refine wpAny_call (codeAny_of_tree ?_)
  show wpAny _ _ (callAny (.type "set") _) _ _ _
  refine wpAny_pure ⟨Code.quiet_builtin _ (by decide +kernel), codeAny_builtin F.entry_type_call ?_⟩
  rw [Around.under_plain (weight_type_call_type "set" [.ref l] []) rfl]
  have h1 := F.called_set.notType
  have h2 := F.called_set.canCreate
  have hct := F.typeCall_set_1 (.ref l)
  repeat (any_goals (first | assumption | wp_step))
  refine codeAny_mono (code_set_led1 (.ref l) (E := E) (Q₁ := fun obj s₁ => obj = .ref s.heap.objs.size ∧ s₁ = { s with heap := s.heap.push (emptySet w) }) ⟨rfl, rfl⟩) fun r s₁ hr => ?_
  cases r with
  | error e => exact hr
  | ok fl =>
    cases fl with
    | ret obj =>
      obtain ⟨rfl, rfl⟩ := hr
      have hS : (s.heap.push (emptySet w)).get? s.heap.objs.size = some (emptySet w) := Heap.get?_push_size _ rfl
      have hT : Shared.TypeIs { s with heap := s.heap.push (emptySet w) } (.ref s.heap.objs.size) "set" := ⟨_, hS, rfl⟩
      have hli := F.called_set.init.lookup
      have hbi := F.called_set.init.bind (.ref s.heap.objs.size)
      repeat (any_goals (first | assumption | wp_step))
      refine codeAny_mono (codeAny_call_builtin (R := wants (fun r s₂ => r = .none ∧ ∃ h' tk c, s₂ = { s with heap := h', toks := tk } ∧ SetQ w h' s.heap.objs.size (fun j => memB ks j) c ∧ c ≤ ks.length ∧
          (∀ b o, s.heap.get? b = some o → h'.get? b = some o)) E) F.called_set.init.plain F.entry_set_init (check_set_init_1 hT ?_)) fun r₂ s₂ hr₂ => ?_
      · obtain ⟨ol, hol, hcl, nl, hdl⟩ := hl
        obtain ⟨ocls, odict, odata, oslots⟩ := ol
        simp only at hcl hdl
        subst hcl; subst hdl
        have hol' : (s.heap.push (emptySet w)).get? l = some { cls := .type "tuple", dict := odict, data := .seq items nl, slots := oslots } := Heap.get?_push_of_some _ hol
        have hsls := PySem.F.sub_tuple_set
        have hslf := PySem.F.sub_tuple_frozenset
        have hne : (Value.type "tuple" == Value.type "dict") = false := by decide
        have hl1 : (s.heap.push (emptySet w)).IsTuple l items := ⟨_, hol', rfl, nl, rfl⟩
        unfold Builtin.«set.__init__» noKeywords Builtin.Frozenset.updateFrom
        generalize hPI : pyIter = PI
        wp_walk
        subst hPI
        refine wpAny_pyIter_tuple hl1 ?_
        refine wpAny_bind (wpAny_runValue ?_)
        have hlS : l < s.heap.objs.size := Heap.lt_size hol
        have hh3 : A.in1.in1.in1.handled = none := by simp [hh]
        have hneI : l ≠ (s.heap.push (emptySet w)).objs.size := by
          rw [Heap.size_push]; exact Nat.ne_of_lt (Nat.lt_succ_of_lt hlS)
        have hSf : s.heap.objs.size ∉ [(s.heap.push (emptySet w)).objs.size, l] := by
          rw [Heap.size_push]; simp only [List.mem_cons, List.mem_singleton, List.not_mem_nil, or_false, not_or]
          exact ⟨Nat.ne_of_lt (Nat.lt_succ_self _), Nat.ne_of_gt hlS⟩
        refine set_update_keys ((Walks.tuple hh3 _ l hneI items).toS) s.heap.objs.size
          hSf ks hit hb hval (items.size - 0) 0 _ (by omega) (Nat.zero_le _)
          ⟨⟨_, Heap.get?_push_size _ rfl, rfl, rfl⟩, (hl1.push _)⟩ ?hS0 ?hR
        case hS0 =>
          have hget : ((s.heap.push (emptySet w)).push { cls := .type "tuple_iterator", data := .fields #[.ref l, .int 0 0] }).get? s.heap.objs.size = some (emptySet w) := Heap.get?_push_of_some _ hS
          exact ⟨0, Nat.le_refl 0, setQ_new_at hget⟩
        case hR =>
          intro s' c' hm hc' hS'
          obtain ⟨h', g2, d', tk', os'⟩ := s'
          have eg : g2 = s.gens := hm.gens
          have ed : d' = s.drawn := hm.drawn
          have eo : os' = s.os := hm.os
          subst eg; subst ed; subst eo
          show wpAny _ _ _ _ _ _
          refine wpAny_pure ?_
          show wpAny _ _ (ret Value.none) _ _ _
          rw [hit] at hc'
          refine wpAny_pure ⟨rfl, h', tk', c', rfl, hS', hc', fun b o e => ?_⟩
          have hb0 : b < s.heap.objs.size := Heap.lt_size e
          have hb1 : b ≠ s.heap.objs.size := Nat.ne_of_lt hb0
          have hb2 : b ≠ (s.heap.push (emptySet w)).objs.size := by
            rw [Heap.size_push]; exact Nat.ne_of_lt (Nat.lt_succ_of_lt hb0)
          exact hm.heap b o (by simp only [List.mem_cons, List.mem_singleton, List.not_mem_nil, or_false, not_or]; exact ⟨hb1, hb2⟩) (Heap.get?_push_of_some _ (Heap.get?_push_of_some _ e))
      · cases r₂ with
        | error e => exact hr₂
        | ok fl₂ =>
          cases fl₂ with
          | ret r =>
            obtain ⟨rfl, h', tk, c', rfl, hS', hc', hk'⟩ := hr₂
            repeat (any_goals (first | assumption | wp_step))
            exact h _ _ _ hS' hc' hk'
          | _ => exact hr₂.elim
    | _ => exact hr.elim
end
def SetQO (w : World) (a : Addr) (S : Key → Bool) (n : Nat) : HO := .ext fun h => SetQ w h a S n
theorem setQO_new {w : World} {P : Program} {H : Hp} {h : Heap} {a : Addr} {S : Key → Bool} {n : Nat} (R : SetQ w h a S n) : ObjOk P w H h a (SetQO w a S n) := by
  have ⟨o, _, _, _, ho, _⟩ := R
  exact ⟨R, ⟨o, ho⟩, fun h1 h2 p k => SetQ.at p k⟩
end DL
set_option Elab.async false
set_option maxRecDepth 100000
set_option autoImplicit false
set_option linter.unusedVariables false
set_option maxHeartbeats 4000000
namespace DL
open PySem L2 PySem.Spec PyProof.Rows
variable [TAB : TabList]
variable [EFF : Eff]
set_option linter.unusedSectionVars false
def dedB {κ : Type} [DecidableEq κ] : List κ → List κ
  | [] => []
  | x :: r => if memB (dedB r) x = true then dedB r else x :: dedB r
theorem mem_dedB {κ : Type} [DecidableEq κ] {a : κ} : ∀ {xs : List κ}, a ∈ dedB xs ↔ a ∈ xs
  | [] => Iff.rfl
  | x :: r => by
    unfold dedB
    split
    · rename_i h
      rw [mem_dedB, List.mem_cons]
      have := mem_dedB.mp (memB_iff.mp h)
      constructor
      · exact .inr
      · rintro (rfl | z)
        · exact this
        · exact z
    · rw [List.mem_cons, List.mem_cons, mem_dedB]
theorem nodup_dedB {κ : Type} [DecidableEq κ] : ∀ xs : List κ, (dedB xs).Nodup
  | [] => List.nodup_nil
  | x :: r => by
    unfold dedB
    split
    · exact nodup_dedB r
    · rename_i h
      exact List.nodup_cons.mpr ⟨fun z => h (memB_iff.mpr z), nodup_dedB r⟩
theorem dedB_of {κ : Type} [DecidableEq κ] : ∀ {xs : List κ}, xs.Nodup → dedB xs = xs
  | [], _ => rfl
  | x :: r, h => by
    obtain ⟨h1, h2⟩ := List.nodup_cons.mp h
    unfold dedB
    rw [dedB_of h2, if_neg (fun z => h1 (memB_iff.mp z))]
theorem perm_of_mem {κ : Type} {xs ys : List κ} (h1 : xs.Nodup) (h2 : ys.Nodup) (h : ∀ a, a ∈ xs ↔ a ∈ ys) : xs.Perm ys := (List.perm_ext_iff_of_nodup h1 h2).mpr h
theorem nodup_of_map {α β : Type} {f : α → β} {l : List α} (h : (l.map f).Nodup) : l.Nodup := List.Pairwise.of_map f (fun _ _ hne e => hne (congrArg f e)) h
def keyV (v : Value) : Key := keyK (0, v)
theorem keyK_snd (e : Int × Value) : keyK e = keyV e.2 := rfl
section
open SrtO Srt
variable {P : Program} {w : World} {A : Around} {E : Value → Shared → Prop} {s : Shared} {a : Addr} {S : Key → Bool} {n : Nat}
theorem sortedQ {ltv : Value → Value → Bool} {Q : Value → Shared → Prop} (O : Swo ltv) (R : SetQ w s.heap a S n) (hh : A.handled = none)
    (hsort : ∀ (vs : List Value), (∀ v ∈ vs, ∃ k, S k = true ∧ RelV (kV k) v) → 2 ≤ vs.length → ∀ (A' : Around) (s' : Shared) (a' : Addr), SortableO P w A' s' a' vs ltv)
    (hQ : ∀ s' p (vs out : List Value) (c : Nat), (∀ b o, s.heap.get? b = some o → s'.heap.get? b = some o) → s'.gens = s.gens → s'.os = s.os → s.heap.objs.size ≤ p →
      s'.heap.get? p = some (seqObj "list" out.toArray c) → (∀ v ∈ vs, ∃ k, S k = true ∧ RelV (kV k) v) → (vs.map keyV).Nodup → (∀ k, S k = true → k ∈ vs.map keyV) → Srtd ltv out → Stb ltv out vs → Q (.ref p) s') :
    wpAny (model P w) A (call (.builtin "sorted") [.ref a]) Q E s := by
  obtain ⟨o, es, ep, t, ho, hex, hd, g, nd, hm, hb, hf, hn, hr, hl⟩ := R
  refine Calls.call_function_entry PyProof.Rows.kind_sorted PyProof.Rows.plain_sorted PyProof.Rows.entry_sorted (PyProof.Rows.args_sorted1 _) ?_
  unfold Builtin.«sorted»
  refine wpAny_bind (m := checkCount "sorted" 1 1 _) (wpAny_pure ?_)
  refine wpAny_bind (collect_set (A := A.in1) hh ⟨o, ho, hex.1, hd⟩ hf hb hr hl fun s1 vs k1 hz g1 o1 pm => ?_)
  have hvl : vs.length = es.size := by rw [pm.length_eq, List.length_map, Array.length_toList]
  have hzl : vs.length ≤ sizeLine := by rw [hvl]; exact fits_of_scanBound hb
  have pk : (vs.map keyV).Perm (es.toList.map keyK) := by
    have q := pm.map keyV
    rw [List.map_map] at q
    exact q
  have hk : ∀ v ∈ vs, ∃ k, S k = true ∧ RelV (kV k) v := fun v hv => by
    obtain ⟨e, he, q⟩ := List.mem_map.mp (pm.mem_iff.mp hv)
    obtain ⟨k, r, _⟩ := g e he
    rw [q] at r
    refine ⟨k, (hm k).mpr ?_, r⟩
    refine List.mem_map.mpr ⟨e, he, ?_⟩
    rw [keyK_snd, q]
    exact keyK_of r
  refine wpAny_bind (wpAny_newList ?_ hzl)
  have hoL : (s1.heap.push (seqObj "list" vs.toArray 0)).get? s1.heap.objs.size = some (seqObj "list" vs.toArray 0) := Heap.get?_push_size _ rfl
  show wpAny _ _ _ _ _ { s1 with heap := s1.heap.push (seqObj "list" vs.toArray 0) }
  refine wpAny_bind (wpAny_holding (wpAny_call_entry PyProof.Rows.slot_list_sort ⟨_, hoL, rfl⟩ PyProof.Rows.entry_list_sort
    (list_sort_ord O (s := { s1 with heap := s1.heap.push (seqObj "list" vs.toArray 0) }) hoL hzl (fun h2 => hsort vs hk h2 _ _ _) fun out hs hb2 => ⟨_, rfl, ?_⟩)
    (PyProof.Rows.args_list_sort _)))
  obtain ⟨c, hc⟩ := PyProof.Rows.sortedHeap_at (vs := vs) (out := out.toArray) hoL
  refine wpAny_pure ⟨_, rfl, hQ _ s1.heap.objs.size vs out c (fun b u e => ?_) g1 o1 hz hc hk (pk.nodup_iff.mpr nd) (fun k hk2 => pk.mem_iff.mpr ((hm k).mp hk2)) hs hb2⟩
  have q := k1 b u e
  have hlt := Heap.lt_size q
  show (PyProof.Rows.sortedHeap (s1.heap.push (seqObj "list" vs.toArray 0)) s1.heap.objs.size vs out.toArray).get? b = some u
  rw [PyProof.Rows.sortedHeap_old (Nat.ne_of_lt hlt) (by rw [size_push']; exact Nat.lt_succ_of_lt hlt)]
  exact Heap.get?_push_of_some _ q
end
section
open SrtO Srt
variable {X : Cx} {pins : List (Addr × Obj)} {σ : L2.St} {H : Hp} {s : Shared}
theorem sortQ_texts {a : Addr} {S : Key → Bool} {n : Nat} {xs : List (List Nat)} {Q : VK} (hc : X.calm = true) (I : Inv X pins σ H s) (R : SetQ X.w s.heap a S n) (hS : ∀ k, S k = true ↔ k ∈ xs.map kS)
    (q : ∀ p : Addr, H p = none → Q (.ref p) (upd H p (.lst ((sortS (dedB xs)).map fun x => V.str ⟨x.toArray⟩)))) : wpAny (model X.prog X.w) X.A (call (.builtin "sorted") [.ref a]) (EP X pins σ Q) X.xe s := by
  have str : ∀ {k : Key} {v : Value}, S k = true → RelV (kV k) v → ∃ x ∈ xs, k = kS x ∧ ∃ t, v = Value.str ⟨x.toArray⟩ t := fun {k v} h r => by
    obtain ⟨x, hx, rfl⟩ := List.mem_map.mp ((hS k).mp h)
    exact ⟨x, hx, rfl, r⟩
  have all : ∀ {vs : List Value}, (∀ v ∈ vs, ∃ k, S k = true ∧ RelV (kV k) v) → StrsAre vs (vs.map strOf) := fun {vs} h => strsAre_map vs fun v hv => by
    obtain ⟨k, h1, h2⟩ := h v hv
    obtain ⟨x, _, _, t, rfl⟩ := str h1 h2
    exact ⟨_, _, rfl⟩
  refine sortedQ swo_str R (I.ok.hd hc) (fun vs hk h2 A' s' a' => strs_sortable (all hk) h2) fun s' p vs out c k g o hp hg hk nd hm hs hb => ?_
  obtain ⟨k1, k2, k3⟩ := strs_out (all hk) hs hb
  have e : out.map strOf = (sortS (dedB xs)).map fun x => (⟨x.toArray⟩ : PySem.Str) := by
    have pv : (vs.map fun v => (strOf v).cps.toList).Perm (dedB xs) := by
      refine perm_of_mem ?_ (nodup_dedB xs) fun x => ?_
      · have e : (vs.map fun v => (strOf v).cps.toList).map kS = vs.map keyV := by
          rw [List.map_map]
          refine List.map_congr_left fun v hv => ?_
          obtain ⟨k, h1, h2⟩ := hk v hv
          obtain ⟨x, _, rfl, t, rfl⟩ := str h1 h2
          rfl
        exact nodup_of_map (by rw [e]; exact nd)
      · rw [mem_dedB, List.mem_map]
        constructor
        · rintro ⟨v, hv, rfl⟩
          obtain ⟨k, h1, h2⟩ := hk v hv
          obtain ⟨x, hx, rfl, t, rfl⟩ := str h1 h2
          exact hx
        · intro hx
          obtain ⟨v, hv, e⟩ := List.mem_map.mp (hm (kS x) ((hS _).mpr (List.mem_map.mpr ⟨x, hx, rfl⟩)))
          obtain ⟨k, h1, h2⟩ := hk v hv
          obtain ⟨y, hy, rfl, t, rfl⟩ := str h1 h2
          refine ⟨_, hv, ?_⟩
          have : kS y = kS x := e
          exact kS_inj this
    have h1 : ((out.map strOf).map fun x => x.cps.toList) = sortS (dedB xs) := by
      refine sortS_uniq ?_ ?_
      · have q2 := k2.map fun x : PySem.Str => x.cps.toList
        refine q2.trans ?_
        rw [List.map_map]
        exact pv
      · exact List.pairwise_map.mpr (k3.imp fun {x y} h => by unfold leS; rw [decide_eq_false h]; rfl)
    rw [← h1, List.map_map]
    have : ((fun x : List Nat => (⟨x.toArray⟩ : PySem.Str)) ∘ fun x : PySem.Str => x.cps.toList) = id := by
      funext x
      cases x
      simp
    rw [this, List.map_id]
  have eq2 : (out.map strOf).map V.str = (sortS (dedB xs)).map fun x => V.str ⟨x.toArray⟩ := by rw [e, List.map_map]; rfl
  have hlen : ((sortS (dedB xs)).map fun x => V.str ⟨x.toArray⟩).length ≤ sizeLine := by
    rw [← eq2, List.length_map, List.length_map, hb.len]
    obtain ⟨_, es, _, _, _, _, _, g0, nd0, hm0, hb0, _⟩ := R
    have pk : (vs.map keyV).Perm (es.toList.map keyK) := perm_of_mem nd nd0 fun k => by
      rw [← hm0 k]
      constructor
      · intro h
        obtain ⟨v, hv, rfl⟩ := List.mem_map.mp h
        obtain ⟨k', h1, h2⟩ := hk v hv
        have : keyV v = k' := keyK_of h2
        rw [this]
        exact h1
      · exact hm k
    have := pk.length_eq
    rw [List.length_map, List.length_map] at this
    have e3 : es.toList.length = es.size := Array.length_toList
    rw [this, e3]
    exact fits_of_scanBound hb0
  have hn : H p = none := I.hok.fresh hp
  have v2 : Vals ((sortS (dedB xs)).map fun x => V.str ⟨x.toArray⟩) out := by rw [← eq2]; exact vals_of_strs k1
  have J : Inv X pins σ (upd H p (.lst ((sortS (dedB xs)).map fun x => V.str ⟨x.toArray⟩))) { s with heap := s'.heap, gens := s'.gens, drawn := s'.drawn, toks := s'.toks } :=
    I.call (ch := []) (Un.laid k hp hn) (I.hok.laid k hp ⟨hlen, out, c, v2, hg⟩) (by rw [g]; exact I.bare) (fun _ z => nomatch z)
  have e : s' = { s with heap := s'.heap, gens := s'.gens, drawn := s'.drawn, toks := s'.toks } := by
    cases s'
    cases s
    cases o
    rfl
  rw [e]
  exact ⟨.ref p, _, J, rfl, q p hn⟩
theorem sortQ_ints {a : Addr} {S : Key → Bool} {n : Nat} {ns : List Int} {Q : VK} (hc : X.calm = true) (I : Inv X pins σ H s) (R : SetQ X.w s.heap a S n) (hS : ∀ k, S k = true ↔ k ∈ ns.map Sum.inl)
    (q : ∀ p : Addr, H p = none → Q (.ref p) (upd H p (.lst ((sortI (dedB ns)).map V.int)))) : wpAny (model X.prog X.w) X.A (call (.builtin "sorted") [.ref a]) (EP X pins σ Q) X.xe s := by
  have int : ∀ {k : Key} {v : Value}, S k = true → RelV (kV k) v → ∃ x ∈ ns, k = .inl x ∧ ∃ t, v = Value.int x t := fun {k v} h r => by
    obtain ⟨x, hx, rfl⟩ := List.mem_map.mp ((hS k).mp h)
    exact ⟨x, hx, rfl, r⟩
  have all : ∀ {vs : List Value}, (∀ v ∈ vs, ∃ k, S k = true ∧ RelV (kV k) v) → IntsAre vs (vs.map iv) := fun {vs} h => ints_iv fun v hv => by
    obtain ⟨k, h1, h2⟩ := h v hv
    obtain ⟨x, _, _, t, rfl⟩ := int h1 h2
    exact ⟨_, _, rfl⟩
  refine sortedQ swo_int R (I.ok.hd hc) (fun vs hk h2 A' s' a' => ints_sortable (all hk) h2) fun s' p vs out c k g o hp hg hk nd hm hs hb => ?_
  obtain ⟨k1, k2, k3⟩ := ints_out (all hk) hs hb
  have e : out.map iv = sortI (dedB ns) := by
    have pv : (vs.map iv).Perm (dedB ns) := by
      refine perm_of_mem ?_ (nodup_dedB ns) fun x => ?_
      · have e : (vs.map iv).map (fun i : Int => (Sum.inl i : Key)) = vs.map keyV := by
          rw [List.map_map]
          refine List.map_congr_left fun v hv => ?_
          obtain ⟨k, h1, h2⟩ := hk v hv
          obtain ⟨x, _, rfl, t, rfl⟩ := int h1 h2
          rfl
        exact nodup_of_map (by rw [e]; exact nd)
      · rw [mem_dedB, List.mem_map]
        constructor
        · rintro ⟨v, hv, rfl⟩
          obtain ⟨k, h1, h2⟩ := hk v hv
          obtain ⟨x, hx, rfl, t, rfl⟩ := int h1 h2
          exact hx
        · intro hx
          obtain ⟨v, hv, e⟩ := List.mem_map.mp (hm (.inl x) ((hS _).mpr (List.mem_map.mpr ⟨x, hx, rfl⟩)))
          obtain ⟨k, h1, h2⟩ := hk v hv
          obtain ⟨y, hy, rfl, t, rfl⟩ := int h1 h2
          refine ⟨_, hv, ?_⟩
          have : (Sum.inl y : Key) = .inl x := e
          exact Sum.inl.inj this
    exact sortI_uniq (k2.trans pv) k3
  have eq2 : (out.map iv).map V.int = (sortI (dedB ns)).map V.int := by rw [e]
  have hlen : ((sortI (dedB ns)).map V.int).length ≤ sizeLine := by
    rw [← eq2, List.length_map, List.length_map, hb.len]
    obtain ⟨_, es, _, _, _, _, _, g0, nd0, hm0, hb0, _⟩ := R
    have pk : (vs.map keyV).Perm (es.toList.map keyK) := perm_of_mem nd nd0 fun k => by
      rw [← hm0 k]
      constructor
      · intro h
        obtain ⟨v, hv, rfl⟩ := List.mem_map.mp h
        obtain ⟨k', h1, h2⟩ := hk v hv
        have : keyV v = k' := keyK_of h2
        rw [this]
        exact h1
      · exact hm k
    have := pk.length_eq
    rw [List.length_map, List.length_map] at this
    have e3 : es.toList.length = es.size := Array.length_toList
    rw [this, e3]
    exact fits_of_scanBound hb0
  have hn : H p = none := I.hok.fresh hp
  have v2 : Vals ((sortI (dedB ns)).map V.int) out := by rw [← eq2]; exact vals_of_ints k1
  have J : Inv X pins σ (upd H p (.lst ((sortI (dedB ns)).map V.int))) { s with heap := s'.heap, gens := s'.gens, drawn := s'.drawn, toks := s'.toks } :=
    I.call (ch := []) (Un.laid k hp hn) (I.hok.laid k hp ⟨hlen, out, c, v2, hg⟩) (by rw [g]; exact I.bare) (fun _ z => nomatch z)
  have e : s' = { s with heap := s'.heap, gens := s'.gens, drawn := s'.drawn, toks := s'.toks } := by
    cases s'
    cases s
    cases o
    rfl
  rw [e]
  exact ⟨.ref p, _, J, rfl, q p hn⟩
end
section
variable {X : Cx}
theorem set_call {pins : List (Addr × Obj)} {σ : L2.St} {H : Hp} {s : Shared} {l : Addr} {us : List V} {ks : List Key} {Qv : Value → Shared → Prop} {E : Value → Shared → Prop} (hc : X.calm = true) (I : Inv X pins σ H s) (hq : SqL X.K H l us ∨ SqT X.K H l us) (hu : us = ks.map kV) (hb : ks.length + 1 < scanBound)
    (h : ∀ s' c, Inv X pins σ H s' → SetQ X.w s'.heap s.heap.objs.size (memB ks) c → c ≤ ks.length → Qv (.ref s.heap.objs.size) s') : wpAny (model X.prog X.w) X.A (call (.type "set") [.ref l]) Qv E s := by
  have val : ∀ (its : List Value), Vals us its → (its.toArray.size = ks.length) ∧ ∀ (i : Nat) (v : Value), its.toArray[i]? = some v → ∃ k, ks[i]? = some k ∧ RelV (kV k) v := fun its r => by
    have hl := r.length
    rw [hu, List.length_map] at hl
    refine ⟨by rw [List.size_toArray]; exact hl.symm, fun i v hv => ?_⟩
    have hv' : its[i]? = some v := by simpa using hv
    have hi : i < ks.length := by rw [hl]; exact (List.getElem?_eq_some_iff.mp hv').1
    have e : us[i]? = some (kV ks[i]) := by rw [hu, List.getElem?_map, List.getElem?_eq_getElem hi]; rfl
    obtain ⟨u, h1, h2⟩ := r.get e
    rw [hv'] at h1
    cases h1
    exact ⟨_, List.getElem?_eq_getElem hi, h2⟩
  rcases hq with hq | hq
  · obtain ⟨its, r, pl, _⟩ := I.list hq
    obtain ⟨h1, h2⟩ := val its r
    exact call_setQ_list ks (I.ok.hd hc) pl.isList h1 h2 hb fun h' tk c hS hle hk => h _ c (I.kept hk) hS hle
  · obtain ⟨its, r, pl, _⟩ := I.tuple hq
    obtain ⟨h1, h2⟩ := val its r
    exact call_setQ_tuple ks (I.ok.hd hc) pl h1 h2 hb fun h' tk c hS hle hk => h _ c (I.kept hk) hS hle
def tLenSetQ (K : PySem.W.Frag) (ta : TE) : TE := fun σ H Q => ta σ H fun x H1 => ∃ l us, ∃ ks : List Key, x = .ref l ∧ (SqL K H1 l us ∨ SqT K H1 l us) ∧ us = ks.map kV ∧ ks.length + 1 < scanBound ∧ Q (.int ((dedB ks).length : Nat)) H1
theorem SetQ.count {w : World} {h : Heap} {a : Addr} {ks : List Key} {n : Nat} (R : SetQ w h a (memB ks) n) : n = (dedB ks).length := by
  obtain ⟨_, es, _, _, _, _, _, _, nd, hm, _, _, hn, _⟩ := R
  have pk : (dedB ks).Perm (es.toList.map keyK) := perm_of_mem (nodup_dedB ks) nd fun k => by rw [mem_dedB, ← hm k, memB_iff]
  rw [pk.length_eq, List.length_map, Array.length_toList, hn]
theorem pe_lenSetQ {a : Expr} {ta : TE} {p p2 q pos : Pos} (hc : X.calm = true) (hg : Gl X "len") (hm : X.mg "len" = none) (hg2 : Gl X "set") (hm2 : X.mg "set" = none) (ha : PE X a ta)
    (na : starEach [a] X.env = (false, eval a X.env) :: starEach [] X.env := by rfl) : PE X (.Call (.Name "len" p) [.Call (.Name "set" p2) [a] [] q] [] pos) (tLenSetQ X.K ta) := by
  refine ⟨fun pins s σ H Q I h => ?_⟩
  refine Call_ (ld_blt I hg hm boot_len ?_)
  refine PyProof.Rows.callWith_builtin1 (PyProof.Rows.args_cons ?_ rfl) rfl rfl
  refine Call_ (ld_blt I hg2 hm2 boot_set ?_)
  refine PyProof.Rows.callWith_type1 (PyProof.Rows.args_cons (thn (ha.run pins s σ H _ I h) fun v s1 ⟨x, H1, I1, r1, q1⟩ => PyProof.Rows.args_nil ?_) na) na rfl
  obtain ⟨l, us, ks, rfl, hq, hu, hb, q1⟩ := q1
  cases r1
  refine set_call hc I1 hq hu hb fun s' c I2 hS hle => ?_
  refine PyProof.Rows.args_nil ?_
  have hc2 := hS.count
  obtain ⟨o, es, ep, t, ho, hex, hd, g, nd, hm3, hb3, hf, hn, hr, hl⟩ := hS
  have hlt : (es.size : Int) < 2 ^ 63 := by
    have : es.size < 4096 := hb3
    omega
  exact call_len_set ho hex hd hf hlt ⟨.int ((dedB ks).length : Nat), H1, I2.tok _, ⟨_, by rw [hn, hc2]⟩, q1⟩
end
section
variable {X : Cx}
def sqD : D → Option (List D)
  | .lst ds => some ds
  | .tup ds => some ds
  | _ => none
theorem sqD_of {K : PySem.W.Frag} {G : Hp} {v : V} {d : D} {ds : List D} (r : Rp K G v d) (h : sqD d = some ds) : ∃ l us, v = .ref l ∧ RpL K G us ds ∧ ∀ H, SameF G H → (SqL K H l us ∨ SqT K H l us) := by
  cases r with
  | lst h1 h2 =>
    cases h
    exact ⟨_, _, rfl, h2, fun H s => .inl (SqL.of (s _ _ h1))⟩
  | tup h1 h2 =>
    cases h
    exact ⟨_, _, rfl, h2, fun H s => .inr (SameF.sqt s h1)⟩
  | non => cases h
  | bl b => cases h
  | int i => cases h
  | str x => cases h
  | dct _ _ _ => cases h
  | dcT _ _ _ => cases h
  | obj _ _ _ _ => cases h
  | bag p => cases h
  | scr _ => cases h
  | exc _ _ => cases h
  | clo _ _ _ _ => cases h
  | cel _ => cases h
def lenSetK : Option (List (List Nat)) → Option (List Int) → M D
  | some xs, _ => M.guard (decide (xs.length + 1 < 4096)) (M.ret (.int ((dedB xs).length : Nat)))
  | none, some ns => M.guard (decide (ns.length + 1 < 4096)) (M.ret (.int ((dedB ns).length : Nat)))
  | none, none => M.fail
def lenSetO : Option (List D) → M D
  | some ds => lenSetK (asTs ds) (intsD ds)
  | none => M.fail
def lenSetF (d : D) : M D := lenSetO (sqD d)
theorem dedB_map {α β : Type} [DecidableEq α] [DecidableEq β] (f : α → β) (hf : ∀ a b, f a = f b → a = b) : ∀ xs : List α, dedB (xs.map f) = (dedB xs).map f
  | [] => rfl
  | x :: r => by
    have ih := dedB_map f hf r
    have e : memB ((dedB r).map f) (f x) = memB (dedB r) x := by
      rw [Bool.eq_iff_iff, memB_iff, memB_iff, List.mem_map]
      exact ⟨fun ⟨y, hy, e⟩ => hf _ _ e ▸ hy, fun h => ⟨x, h, rfl⟩⟩
    rw [List.map_cons]
    unfold dedB
    rw [ih, e]
    split
    · rfl
    · rfl
theorem d_lenSet {a : Expr} {f : Env → M D} {p p2 q pos : Pos} (hc : X.calm = true) (hg : Gl X "len") (hm : X.mg "len" = none) (hg2 : Gl X "set") (hm2 : X.mg "set" = none) (ha : DE X a f)
    (na : starEach [a] X.env = (false, eval a X.env) :: starEach [] X.env := by rfl) : DE X (.Call (.Name "len" p) [.Call (.Name "set" p2) [a] [] q] [] pos) (e1 lenSetF f) := by
  refine PEimp (pe_lenSetQ hc hg hm hg2 hm2 ha na) ?_
  rintro σ H Q ⟨ρ, G, b, dd, b', rs, fz, ob, e, q⟩
  obtain ⟨d, b1, e1, e2⟩ := M.bind_some e
  refine ⟨ρ, G, b, d, b1, rs, fz, ob, e1, fun v G' H' n r => ?_⟩
  unfold lenSetF at e2
  cases hd : sqD d with
  | none => rw [hd] at e2; cases e2
  | some es =>
    rw [hd] at e2
    obtain ⟨l, us, rfl, rl, hq⟩ := sqD_of r hd
    unfold lenSetO at e2
    dsimp only at e2
    cases et : asTs es with
    | some xs =>
      rw [et] at e2
      unfold lenSetK M.guard at e2
      dsimp only at e2
      split at e2
      · rename_i hg
        cases e2
        refine ⟨l, us, xs.map kS, rfl, hq H' n.fz, by rw [rl.textsV et, List.map_map]; rfl, by rw [List.length_map]; exact of_decide_eq_true hg, ?_⟩
        rw [dedB_map kS (fun a b => kS_inj), List.length_map]
        exact q _ G' H' n (.int _)
      · cases e2
    | none =>
      rw [et] at e2
      cases ei : intsD es with
      | none => rw [ei] at e2; cases e2
      | some ns =>
        rw [ei] at e2
        unfold lenSetK M.guard at e2
        dsimp only at e2
        split at e2
        · rename_i hg
          cases e2
          refine ⟨l, us, ns.map Sum.inl, rfl, hq H' n.fz, by rw [intsD_of rl ei, List.map_map]; rfl, by rw [List.length_map]; exact of_decide_eq_true hg, ?_⟩
          rw [dedB_map Sum.inl (fun a b => Sum.inl.inj), List.length_map]
          exact q _ G' H' n (.int _)
        · cases e2
end
end DL
set_option Elab.async false
set_option maxRecDepth 100000
set_option autoImplicit false
set_option linter.unusedVariables false
set_option maxHeartbeats 4000000
namespace DL
open PySem L2 PySem.Spec PyProof.Rows PpSet
variable [TAB : TabList]
variable [EFF : Eff]
set_option linter.unusedSectionVars false
theorem setQO_nc {w : World} {a c : Addr} {S : Key → Bool} {n : Nat} {q : Str} : SetQO w a S n ≠ LamX.CodeO c q := ext_ne fun hp h => by
  obtain ⟨o, _, _, _, h1, _, h2, _⟩ := h
  exact ⟨a, o, h1, fun vs z => by rw [h2] at z; cases z⟩
section
variable {X : Cx}
theorem setQO_get {pins : List (Addr × Obj)} {σ : L2.St} {H : Hp} {s : Shared} {a : Addr} {S : Key → Bool} {n : Nat} (I : Inv X pins σ H s) (ha : H a = some (SetQO X.w a S n)) : SetQ X.w s.heap a S n := (I.hok a _ ha).1
theorem addQ_ok {pins : List (Addr × Obj)} {σ : L2.St} {H : Hp} {s : Shared} {E : Value → Shared → Prop} {Dd : Addr} {S : Key → Bool} {n : Nat} {k : Key} {u : Value} {Q : Value → Shared → Prop} (ru : RelV (kV k) u) (I : Inv X pins σ H s) (hD : H Dd = some (SetQO X.w Dd S n)) (room : n + 1 < scanBound)
    (h : ∀ s', Inv X pins σ (upd H Dd (SetQO X.w Dd (fun j => S j || decide (j = k)) (if S k = true then n else n + 1))) s' → Q .none s') : wpAny (model X.prog X.w) X.A (call (.builtin "set.add") [.ref Dd, u]) Q E s := by
  refine setQ_add ru (setQO_get I hD) room fun h' tk sb new => ?_
  have he : ∃ u, h'.get? Dd = some u := by
    have ⟨o, _, _, _, ho, _⟩ := new
    exact ⟨o, ho⟩
  exact h _ (I.write (e := Dd) (t' := tk) (by rw [hD]; trivial) (.inl rfl) (fun b u hb hu => (sb.2 b hb).trans hu) he (setQO_new new))
def tScQ (w : World) (wi : TI) (g : TG) (tt : TT) (te : TE) (vs : List Nat) : TE := fun σ H Q => wi σ H fun J H1 => ∀ Dd, H1 Dd = none → ∃ W : Nat → Nat → Hp → Prop, (∃ m, W 0 m (upd H1 Dd (SetQO w Dd (memB []) 0))) ∧ ∀ i m H, W i m H →
  (J.stop i H ∧ Q (.ref Dd) H) ∨ (J.go i H ∧ ∃ Nx : Hp → Prop, (∀ H', Nx H' → ∃ m', m' < m ∧ W (i + 1) m' H') ∧ ∀ x H', J.yld i H x H' → g x (wipe σ vs) H' fun σ2 H2 => wipe σ2 vs = wipe σ vs ∧ tt σ2 H2 fun b H3 =>
    if b = true then te σ2 H3 fun y H4 => ∃ (k : Key) (S : Key → Bool) (n : Nat), y = kV k ∧ H4 Dd = some (SetQO w Dd S n) ∧ n + 1 < scanBound ∧ Nx (upd H4 Dd (SetQO w Dd (fun j => S j || decide (j = k)) (if S k = true then n else n + 1))) else Nx H3)
theorem sc_coreQ {pins : List (Addr × Obj)} {s : Shared} {σ : L2.St} {H : Hp} {Q : VK} {elt tg iter : Expr} {ifs : List Expr} {scope : Scope} {own : List (PySem.Str × Nat)} {pos pos' : Pos} {wi : TI} {g : TG} {tt : TT} {te : TE} {use : Option (Value → Sem Unit)} {Qf : Value → Shared → Prop}
    (hc : X.calm = true) (hN : X.N.Nodup) (I : Inv X pins σ H s) (hi : PI X tg iter wi) (ok : BlkOk X.N X.env.scope scope own)
    (hg : ∀ (s : Shared) (H : Hp) (C : Addr) (cl : List (PySem.Str × Addr)) (fp : List Addr), PG (X.blk s H scope (compEnvC scope cl C X.env) fp) tg g) (ht : ∀ (s : Shared) (H : Hp) (C : Addr) (cl : List (PySem.Str × Addr)) (fp : List Addr), PTs (X.blk s H scope (compEnvC scope cl C X.env) fp) ifs tt)
    (he : ∀ (s : Shared) (H : Hp) (C : Addr) (cl : List (PySem.Str × Addr)) (fp : List Addr), PE (X.blk s H scope (compEnvC scope cl C X.env) fp) elt te) (hs : ∀ x, foldedSetIterable iter X.env x = pure x)
    (h : tScQ X.w wi g tt te (own.map (·.2)) σ H Q)
    (hRR : ∀ Dd C s' m H', Inv X pins σ H' s' → Q (.ref Dd) H' → s'.heap.Ns C m → FpOk X pins H' C → compPost (model X.prog X.w) X.A X.xe use Qf (.ref Dd) C (.ok .next) s') :
    wpAny (model X.prog X.w) X.A (comprehension (.SetComp elt [⟨tg, iter, ifs, 0⟩] scope pos) scope X.env pos' (newSet (.type "set")) false (eval iter X.env) use) Qf X.xe s := by
  have hfree : ∀ y ∈ scope.names, y.2 = .free → ∃ c, X.env.cells.lookup y.1 = some c := fun y hy e => by
    rcases ok.free y hy e with k | k
    · exact I.ok.has _ (.inl k)
    · exact I.ok.has _ (.inr k)
  refine wpAny_comprehension_free (use := use) rfl hs (closure_ok hfree) ok.kind (fun y hy e => by rw [ok.uniq y hy, e])
    (thn (hi.run pins s σ H _ I h) fun xv s1 hx => thn hx fun itv s2 h2 => ?_)
  obtain ⟨it, fp, tn, J, H2, e, I2, T, st2, f2, q⟩ := h2
  subst e
  refine newSet_ok (newEnv_comp ?_)
  generalize hD : s2.heap.objs.size = Dd
  have hDn : H2 Dd = none := I2.hok.fresh (Nat.le_of_eq hD)
  obtain ⟨W, ⟨m0, w0⟩, turn⟩ := q Dd hDn
  generalize hs3 : ({ s2 with heap := s2.heap.push (emptySet X.w) } : Shared) = s3
  have I3 : Inv X pins σ (upd H2 Dd (SetQO X.w Dd (memB []) 0)) s3 := by
    rw [← hs3]
    refine I2.laid (t' := s2.toks) (fun b o e => Heap.get?_push_of_some _ e) (Nat.le_of_eq hD) ?_
    rw [← hD]
    exact setQO_new (setQ_new_at (ks := []) (Heap.get?_push_size _ rfl))
  have h3 : s3.heap = s2.heap.push (emptySet X.w) := by rw [← hs3]
  have sz : ∀ b ∈ fp, b < s2.heap.objs.size := fun b hb => by
    obtain ⟨o, e, _⟩ := T.obj _ _ st2 b hb
    exact Heap.lt_size e
  have f3 : ∀ b ∈ fp, FpOk X pins (upd H2 Dd (SetQO X.w Dd (memB []) 0)) b ∧ b < s3.heap.objs.size := fun b hb => by
    have hlt := sz b hb
    refine ⟨⟨?_, (f2 b hb).2⟩, by rw [h3, Heap.size_push]; exact Nat.lt_succ_of_lt hlt⟩
    rw [upd_ne (by rw [← hD]; exact Nat.ne_of_lt hlt)]
    exact (f2 b hb).1
  have st3 : tn 0 s3.heap := T.keep _ _ _ st2 fun b _ o e => by rw [h3]; exact Heap.get?_push_of_some _ e
  have I4 := block_start I3 ok hN f3
  have pg := hg s3 (upd H2 Dd (SetQO X.w Dd (memB []) 0)) s3.heap.objs.size (cellsFrom (s3.heap.objs.size + 1) scope.names (cloFrom X.env.cells scope.names [])) fp
  have pt := ht s3 (upd H2 Dd (SetQO X.w Dd (memB []) 0)) s3.heap.objs.size (cellsFrom (s3.heap.objs.size + 1) scope.names (cloFrom X.env.cells scope.names [])) fp
  have pe := he s3 (upd H2 Dd (SetQO X.w Dd (memB []) 0)) s3.heap.objs.size (cellsFrom (s3.heap.objs.size + 1) scope.names (cloFrom X.env.cells scope.names [])) fp
  have nfp : ∀ b ∈ fp, (upd H2 Dd (SetQO X.w Dd (memB []) 0)) b = none := fun b hb => (f3 b hb).1.1
  show codeAny _ _ (.compStart (.SetComp elt [⟨tg, iter, ifs, 0⟩] scope pos) 0 (.ref it) (.ref Dd) (compEnvC scope (cellsFrom (s3.heap.objs.size + 1) scope.names (cloFrom X.env.cells scope.names [])) s3.heap.objs.size X.env)) (compPost (model X.prog X.w) X.A X.xe use Qf (.ref Dd) s3.heap.objs.size) { s3 with heap := pushCells (s3.heap.push { cls := .type "dict", data := .dict #[] }) scope.names }
  generalize hce : compEnvC scope (cellsFrom (s3.heap.objs.size + 1) scope.names (cloFrom X.env.cells scope.names [])) s3.heap.objs.size X.env = ce at I4 pg pt pe ⊢
  have cL : ce.locals = s3.heap.objs.size := by subst hce; rfl
  generalize hH3 : upd H2 Dd (SetQO X.w Dd (memB []) 0) = H3 at I3 I4 pg pt pe w0 nfp f3
  generalize hs4 : ({ s3 with heap := pushCells (s3.heap.push { cls := .type "dict", data := .dict #[] }) scope.names } : Shared) = s4 at I4 ⊢
  have st4 : tn 0 s4.heap := T.keep _ _ _ st3 fun b _ o e => by rw [← hs4]; exact pushCells_keeps _ _ _ _ (Heap.get?_push_of_some _ e)
  have stat : ∀ {σ' : L2.St} {H' : Hp} {s' : Shared}, Inv (X.blk s3 H3 scope ce fp) [] σ' H' s' → (∀ b ∈ fp, H' b = none) → ∀ b ∈ fp, FpOk (X.blk s3 H3 scope ce fp) [] H' b := fun {σ' H' s'} I' hn b hb =>
    ⟨hn b hb, (I'.ok.exf b hb).1, I'.ok.exfs b hb, .inl hb, fun x c e => (I'.ok.exf b hb).2 x c e, fun p hp => absurd (show p ∈ ([] : List (Addr × Obj)) ++ [] from hp) (by simp)⟩
  have loop : codeAny (model X.prog X.w) X.A (.compLoop (.SetComp elt [⟨tg, iter, ifs, 0⟩] scope pos) 0 (.ref it) (.ref Dd) ce) (compPost (model X.prog X.w) X.A X.xe use Qf (.ref Dd) s3.heap.objs.size) s4 := by
    refine compLoopS_any (fun n s' => ∃ i H', Inv (X.blk s3 H3 scope ce fp) [] (wipe σ (own.map (·.2))) H' s' ∧ tn i s'.heap ∧ (∀ b ∈ fp, H' b = none) ∧ W i n H') ?_ m0 ⟨0, H3, I4, st4, nfp, w0⟩
    rintro n s5 ⟨i, H5, I5, st5, n5, w5⟩
    rcases turn i n H5 w5 with ⟨stop, qq⟩ | ⟨go, Nx, hNx, step⟩
    · have td := T.done (X.blk s3 H3 scope ce fp) rfl rfl rfl hc i [] s5 _ H5 (fun _ _ => False) I5 (stat I5 n5) st5 stop
      refine thnF td fun r s6 ⟨hr, I6⟩ => ?_
      subst hr
      have I7 : Inv X pins σ H5 s6 := I3.call' (ch := fp) I6.os I6.base I6.hok I6.bare fun b hb => ⟨(f3 b hb).1.2.2.2.1, (f3 b hb).1.2.1, (f3 b hb).1.2.2.2.2.1, (f3 b hb).1.2.2.2.2.2⟩
      have nC : H5 s3.heap.objs.size = none := by
        have z : H5 ce.locals = none := I6.free
        rw [cL] at z
        exact z
      obtain ⟨m, hn, _⟩ := I6.loc
      have hn : s6.heap.Ns ce.locals m := hn
      rw [cL] at hn
      exact hRR Dd s3.heap.objs.size s6 m H5 I7 qq hn (I3.fpOk (Nat.le_refl _) nC)
    · have ti := T.item (X.blk s3 H3 scope ce fp) rfl rfl rfl hc i [] s5 _ H5 (fun _ _ => False) I5 (stat I5 n5) st5 go
      refine thnF ti fun r s6 ⟨u, hr, h6⟩ => ?_
      subst hr
      refine thnF h6 fun _ s7 ⟨x, H7, I7, r7, y7, st7, n7⟩ => ?_
      have I7' := I7.pinned (stat I7 n7) (T.obj _ _ st7)
      refine thnF (pg.run _ s7 _ H7 x u _ I7' r7 (step x H7 y7)) fun _ s8 ⟨σ8, H8, I8, hw8, q8⟩ => ?_
      refine thnF (pt.run _ s8 σ8 H8 _ I8 q8) fun b s9 ⟨H9, I9, q9⟩ => ?_
      have fin : ∀ {s' : Shared} {H' : Hp}, Inv (X.blk s3 H3 scope ce fp) ([] ++ pinsAt fp s7.heap) σ8 H' s' → Nx H' → ∃ m, m < n ∧ ∃ i H', Inv (X.blk s3 H3 scope ce fp) [] (wipe σ (own.map (·.2))) H' s' ∧ tn i s'.heap ∧ (∀ b ∈ fp, H' b = none) ∧ W i m H' := fun {s' H'} I' nx => by
        obtain ⟨m', hm, w'⟩ := hNx H' nx
        have pin' : ∀ b ∈ fp, ∀ o, s7.heap.get? b = some o → s'.heap.get? b = some o ∧ H' b = none := fun b hb o e =>
          let z := I'.pin (b, o) (List.mem_append_right _ (List.mem_append_right _ (mem_pinsAt hb e)))
          ⟨z.1, z.2.1⟩
        have hl : (wipe σ (own.map (·.2))).length = σ8.length := by rw [← hw8, wipe_length]
        refine ⟨m', hm, i + 1, H', (I'.unpinned (pins := [])).weak hl (fun j v e => ?_), T.keep _ _ _ st7 fun b hb o e => (pin' b hb o e).1, fun b hb => ?_, w'⟩
        · rw [← hw8] at e
          exact (wipe_some e).1
        · obtain ⟨o, e, _⟩ := T.obj _ _ st7 b hb
          exact (pin' b hb o e).2
      cases b with
      | false =>
        simp only [Bool.false_eq_true, if_false] at q9 ⊢
        exact fin I9 q9
      | true =>
        simp only [if_true] at q9 ⊢
        refine thnF (pe.run _ s9 σ8 H9 _ I9 q9) fun z s10 ⟨yv, H10, I10, r10, kb, S0, n0, ey, hD10, hz10, nx⟩ => ?_
        subst ey
        exact addQ_ok (X := X.blk s3 H3 scope ce fp) r10 I10 hD10 hz10 fun s11 I11 => fin I11 nx
  exact codeAny_compStart_set loop (T.self X.A 0 _ _ _ st4 loop)
theorem pe_scQ {elt tg iter : Expr} {ifs : List Expr} {scope : Scope} {own : List (PySem.Str × Nat)} {pos : Pos} {wi : TI} {g : TG} {tt : TT} {te : TE} (hc : X.calm = true) (hN : X.N.Nodup) (hi : PI X tg iter wi) (ok : BlkOk X.N X.env.scope scope own)
    (hg : ∀ (s : Shared) (H : Hp) (C : Addr) (cl : List (PySem.Str × Addr)) (fp : List Addr), PG (X.blk s H scope (compEnvC scope cl C X.env) fp) tg g) (ht : ∀ (s : Shared) (H : Hp) (C : Addr) (cl : List (PySem.Str × Addr)) (fp : List Addr), PTs (X.blk s H scope (compEnvC scope cl C X.env) fp) ifs tt)
    (he : ∀ (s : Shared) (H : Hp) (C : Addr) (cl : List (PySem.Str × Addr)) (fp : List Addr), PE (X.blk s H scope (compEnvC scope cl C X.env) fp) elt te) (hs : ∀ x, foldedSetIterable iter X.env x = pure x := by intro _; rfl) :
    PE X (.SetComp elt [⟨tg, iter, ifs, 0⟩] scope pos) (tScQ X.w wi g tt te (own.map (·.2))) := by
  refine ⟨fun pins s σ H Q I h => ?_⟩
  rw [eval_SetComp]
  refine sc_coreQ hc hN I hi ok hg ht he hs h fun Dd C s' m H' I' q hn f => ⟨m, hn, fun h'' sb => ?_⟩
  obtain ⟨f0, f1, f2, f3, f4, f5⟩ := f
  exact ⟨.ref Dd, H', I'.turned (t' := s'.toks) (fun b o hb e => (sb.2 b hb).trans e) f0 f1 f3 f4 f5, rfl, q⟩
def rSortQ (w : World) : List V → Hp → VK → Prop := fun vs H Q => ∃ (a : Addr) (ks : List Key) (n : Nat), vs = [V.ref a] ∧ H a = some (SetQO w a (memB ks) n) ∧
  ((∃ xs : List (List Nat), ks = xs.map kS ∧ ∀ p : Addr, H p = none → Q (.ref p) (upd H p (.lst ((sortS (dedB xs)).map fun x => V.str ⟨x.toArray⟩)))) ∨
    (∃ ns : List Int, ks = ns.map Sum.inl ∧ ∀ p : Addr, H p = none → Q (.ref p) (upd H p (.lst ((sortI (dedB ns)).map V.int)))))
theorem cr_sortQ (hc : X.calm = true) : CallR X (.builtin "sorted") (rSortQ X.w) := by
  intro pins s σ H vs us Q I r h
  obtain ⟨a, ks, n, rfl, ha, q⟩ := h
  have R := setQO_get I ha
  rw [Vals.ref1 r]
  rcases q with ⟨xs, rfl, q⟩ | ⟨ns, rfl, q⟩
  · exact sortQ_texts hc I R (fun k => memB_iff) q
  · exact sortQ_ints hc I R (fun k => memB_iff) q
def sortKeysK : Option (List (List Nat)) → Option (List Int) → M (List D)
  | some xs, _ => M.ret ((sortS (dedB xs)).map D.str)
  | none, some ns => M.ret ((sortI (dedB ns)).map D.int)
  | none, none => M.fail
def sortScK (ys : List D) : M (List D) := M.guard (decide (ys.length + 1 < 4096)) (sortKeysK (asTs ys) (intsD ys))
theorem keys_asTs : ∀ {ds : List D} {xs : List (List Nat)}, asTs ds = some xs → ds.map keyD = (xs.map kS).map some
  | [], _, h => by cases h; rfl
  | d :: r, xs, h => by
    cases d with
    | str x =>
      unfold asTs at h
      cases e : asTs r with
      | none => rw [e] at h; cases h
      | some l =>
        rw [e] at h
        cases h
        rw [List.map_cons, keys_asTs e]
        rfl
    | _ => cases h
theorem keys_ints : ∀ {ds : List D} {ns : List Int}, intsD ds = some ns → ds.map keyD = (ns.map Sum.inl).map some
  | [], _, h => by cases h; rfl
  | d :: r, xs, h => by
    cases d with
    | int x =>
      unfold intsD at h
      cases e : intsD r with
      | none => rw [e] at h; cases h
      | some l =>
        rw [e] at h
        cases h
        rw [List.map_cons, keys_ints e]
        rfl
    | _ => cases h
theorem sc_f {K : PySem.W.Frag} {w : World} {gi : Env → M (List D)} {g : TG} {bs : D → Option (List (Nat × D))} {is vs : List Nat} {c : Env → M Bool} {e : Env → M D} (tg : TgOk K g bs is) (his : ∀ i ∈ is, i ∈ vs) :
    ∀ σ H Q, tN K (fun ρ => M.bind (gi ρ) fun xs => M.bind (compM bs c e (wipeD ρ vs) xs) sortScK) σ H Q → tCB (rSortQ w) (tCons (tScQ w (iF K gi) g (tFT K c) (tF K e) vs) tNil) σ H Q := by
  rintro σ H Q ⟨ρ, G, b, ds, b', rs, fz, ob, e0, q⟩
  obtain ⟨xs, b1, e1, e2⟩ := M.bind_some e0
  obtain ⟨ys, b2, e2, e3⟩ := M.bind_some e2
  unfold sortScK at e3
  obtain ⟨hz, e3⟩ := M.guard_some e3
  have hz1 : ys.length + 1 < 4096 := of_decide_eq_true hz
  obtain ⟨ks, hks⟩ : ∃ ks : List Key, ys.map keyD = ks.map some := by
    cases et : asTs ys with
    | some ts => exact ⟨_, keys_asTs et⟩
    | none =>
      cases ei : intsD ys with
      | some ns => exact ⟨_, keys_ints ei⟩
      | none => rw [et, ei] at e3; cases e3
  refine ⟨ρ, G, b, xs, b1, rs, fz, ob, e1, fun J G1 H1 n1 yl Dd hD => ?_⟩
  have m0 : Nxt G1 H1 b1 G1 (upd H1 Dd (SetQO w Dd (memB []) 0)) b1 := Nxt.newH n1.fz n1.bag hD
  refine ⟨fun i m H2 => m = xs.length - i ∧ i ≤ xs.length ∧ ∃ G2 bb acc kacc rest n, Nxt G H b G2 H2 bb ∧ Same G1 G2 ∧ G2 Dd = none ∧ H2 Dd = some (SetQO w Dd (memB kacc) n) ∧ n ≤ kacc.length ∧ acc.map keyD = kacc.map some ∧ compM bs c e (wipeD ρ vs) (xs.drop i) bb = some (rest, b2) ∧ acc ++ rest = ys,
    ⟨xs.length, by simp, Nat.zero_le _, G1, b1, [], [], ys, 0, n1.trans m0, fun _ _ h => h, gnone n1.fz hD, upd_same, Nat.le_refl _, rfl, by simpa using e2, rfl⟩, ?_⟩
  rintro i m H2 ⟨rfl, hi, G2, bb, acc, kacc, rest, n, n2, s12, gD, hDd, hn, ra, ec, ea⟩
  have Y := yl i G2 H2 bb s12 n2.fz n2.bag
  by_cases hlt : i < xs.length
  · have hx : xs[i]? = some xs[i] := List.getElem?_eq_getElem hlt
    have hdr : xs.drop i = xs[i] :: xs.drop (i + 1) := List.drop_eq_getElem_cons hlt
    obtain ⟨hgo, hy⟩ := Y.1 _ hx
    refine .inr ⟨hgo, fun H3 => ∃ G2 bb acc kacc rest n, Nxt G H b G2 H3 bb ∧ Same G1 G2 ∧ G2 Dd = none ∧ H3 Dd = some (SetQO w Dd (memB kacc) n) ∧ n ≤ kacc.length ∧ acc.map keyD = kacc.map some ∧ compM bs c e (wipeD ρ vs) (xs.drop (i + 1)) bb = some (rest, b2) ∧ acc ++ rest = ys,
      fun H' h' => ⟨xs.length - (i + 1), by omega, rfl, hlt, h'⟩, fun x H3 hyl => ?_⟩
    obtain ⟨G3, n3, rx⟩ := hy x H3 hyl
    rw [hdr] at ec
    unfold compM at ec
    cases eb : bs xs[i] with
    | none => rw [eb] at ec; cases ec
    | some l =>
      rw [eb] at ec
      obtain ⟨lv, pl, il, gq⟩ := tg G3 x xs[i] l rx eb
      refine gq H3 _ _ n3.fz ?_
      have rsb : RS K G3 (setAll (wipe σ vs) lv) (setAllD (wipeD ρ vs) l) := by
        refine RS.setAll pl (RS.wipe (rs.mono ?_) vs)
        exact fun a o h => n3.gg a o (n2.gg a o h)
      refine ⟨?_, ?_⟩
      · rw [wipe_setAll fun p hp => his _ (il p hp)]
        exact wipe_wipe fun v hv => hv
      · obtain ⟨k, b3, ek, ec⟩ := M.bind_some ec
        have gD3 : G3 Dd = none := n3.new Dd _ hDd gD
        have nb : ¬ bb.hit Dd := by rw [← Bs.like_at n2.like]; exact bag_ne ob (n1.free hD)
        have hD3 : H3 Dd = some (SetQO w Dd (memB kacc) n) := n3.keep Dd _ hDd nb
        refine ⟨_, G3, bb, k, b3, rsb, n3.fz, n3.bag, ek, fun G4 H4 n4 => ?_⟩
        have gD4 : G4 Dd = none := n4.new Dd _ hD3 gD3
        have hD4 : H4 Dd = some (SetQO w Dd (memB kacc) n) := n4.keep Dd _ hD3 nb
        have nb3 : ¬ b3.hit Dd := by rw [← Bs.like_at n4.like]; exact nb
        cases k with
        | false =>
          refine iteF ⟨G4, b3, acc, kacc, rest, n, (n2.trans n3).trans n4, fun a o h => n4.gg a o (n3.gg a o (s12 a o h)), gD4, hD4, hn, ra, ec, ea⟩
        | true =>
          refine iteT ?_
          obtain ⟨y, b4, ey, ec⟩ := M.bind_some ec
          obtain ⟨ys2, b5, ey2, ec⟩ := M.bind_some ec
          cases ec
          refine ⟨_, G4, b3, y, b4, rsb.mono n4.gg, n4.fz, n4.bag, ey, fun v G5 H5 n5 rv => ?_⟩
          have gD5 : G5 Dd = none := n5.new Dd _ hD4 gD4
          have hD5 : H5 Dd = some (SetQO w Dd (memB kacc) n) := n5.keep Dd _ hD4 nb3
          have la : acc.length = kacc.length := by
            have := congrArg List.length ra
            simpa using this
          have lz : acc.length + 1 ≤ ys.length := by
            have := congrArg List.length ea
            simp at this
            omega
          obtain ⟨ky, hky⟩ : ∃ ky, keyD y = some ky := by
            have hm : keyD y ∈ ks.map some := by
              rw [← hks, ← ea]
              simp
            obtain ⟨ky, _, e⟩ := List.mem_map.mp hm
            exact ⟨ky, e.symm⟩
          refine ⟨ky, memB kacc, n, keyD_of rv hky, hD5, by show n + 1 < 4096; omega, ?_⟩
          have eS : (fun j => memB kacc j || decide (j = ky)) = memB (kacc ++ [ky]) := by
            funext j
            rw [memB_snoc]
          rw [eS]
          refine ⟨G5, b4, acc ++ [y], kacc ++ [ky], ys2, _, (((n2.trans n3).trans n4).trans n5).mut ob (n1.free hD) gD5 (fun c q z => setQO_nc (Option.some.inj (hD5.symm.trans z))), fun a o h => n5.gg a o (n4.gg a o (n3.gg a o (s12 a o h))), gD5, upd_same, ?_, ?_, ey2, ?_⟩
          · rw [List.length_append, List.length_singleton]
            split <;> omega
          · rw [List.map_append, List.map_append, ra, List.map_singleton, List.map_singleton, hky]
          · rw [← ea]; simp
  · have e : i = xs.length := by omega
    subst e
    have hr : xs.drop xs.length = [] := by simp
    rw [hr] at ec
    cases ec
    simp at ea
    subst ea
    refine .inl ⟨Y.2 (Nat.le_refl _), ?_⟩
    show rSortQ w [V.ref Dd] H2 Q
    have fin : ∀ (us : List V), RpL K G2 us ds → ∀ p, H2 p = none → Q (.ref p) (upd H2 p (.lst us)) := fun us r p hp => by
      have hpH : H p = none := by
        cases e0 : H p with
        | none => rfl
        | some o =>
          by_cases hb : b.hit p
          · have := bag_ne n2.bag hp
            rw [← Bs.like_at n2.like] at this
            exact absurd hb this
          · rw [n2.keep p o e0 hb] at hp; cases hp
      cases et : asTs acc <;> cases ei : intsD acc <;> rw [et, ei] at e3 <;> cases e3 <;> exact q p us G2 _ (n2.trans (Nxt.newH n2.fz n2.bag hp)) hpH (gnone n2.fz hp) upd_same r
    refine ⟨Dd, kacc, n, rfl, hDd, ?_⟩
    have inj : ∀ {l m : List Key}, l.map some = m.map some → l = m := fun {l m} h => by
      have := List.map_inj_right (f := (some : Key → Option Key)) (fun a b => Option.some.inj) |>.mp h
      exact this
    cases et : asTs acc with
    | some ts =>
      rw [et] at e3
      cases e3
      exact .inl ⟨ts, inj (by rw [← ra]; exact keys_asTs et), fin _ (RpL.strsD _)⟩
    | none =>
      rw [et] at e3
      cases ei : intsD acc with
      | none => rw [ei] at e3; cases e3
      | some ns =>
        rw [ei] at e3
        cases e3
        exact .inr ⟨ns, inj (by rw [← ra]; exact keys_ints ei), fin _ (RpL.ints _)⟩
def nSortSc (vs : List Nat) (gi : Env → M (List D)) (bs : D → Option (List (Nat × D))) (c : Env → M Bool) (e : Env → M D) : Env → M (List D) := fun ρ => M.bind (gi ρ) fun xs => M.bind (compM bs c e (wipeD ρ vs) xs) sortScK
theorem dn_sortSc {elt tg iter : Expr} {ifs : List Expr} {scope : Scope} {own : List (Str × Nat)} {pos p pos2 : Pos} {gi : Env → M (List D)} {g : TG} {bs : D → Option (List (Nat × D))} {is : List Nat} {c : Env → M Bool} {e : Env → M D}
    (hgl : Gl X "sorted") (hm : X.mg "sorted" = none) (hc : X.calm = true) (hN : X.N.Nodup) (hi : DI X tg iter gi) (ok : BlkOk X.N X.env.scope scope own) (ht : TgOk X.K g bs is) (his : is.all (fun i => (own.map (·.2)).contains i) = true)
    (hg : ∀ (s : Shared) (H : Hp) (C : Addr) (cl : List (Str × Addr)) (fp : List Addr), PG (X.blk s H scope (compEnvC scope cl C X.env) fp) tg g) (htt : ∀ (s : Shared) (H : Hp) (C : Addr) (cl : List (Str × Addr)) (fp : List Addr), DTs (X.blk s H scope (compEnvC scope cl C X.env) fp) ifs c)
    (he : ∀ (s : Shared) (H : Hp) (C : Addr) (cl : List (Str × Addr)) (fp : List Addr), DE (X.blk s H scope (compEnvC scope cl C X.env) fp) elt e) (hs : ∀ x, foldedSetIterable iter X.env x = pure x := by intro _; rfl) :
    DN X (.Call (.Name "sorted" p) [.SetComp elt [⟨tg, iter, ifs, 0⟩] scope pos] [] pos2) (nSortSc (own.map (·.2)) gi bs c e) :=
  PEimp (pe_callB (cr_sortQ hc) hgl hm (by decide +kernel) (pa_cons (pe_scQ hc hN hi ok hg htt he hs) pa_nil)) (sc_f ht fun i hi => by
    have := List.all_eq_true.mp his i hi
    simpa using this)
end
theorem q_nSortSc (ρ : Env) (vs : List Nat) (gi : Env → M (List D)) (bs : D → Option (List (Nat × D))) (c : Env → M Bool) (e : Env → M D) : nSortSc vs gi bs c e ρ = bnd (gi ρ) fun xs => bnd (compM bs c e (wipeD ρ vs) xs) sortScK := rfl
theorem sortScK_strs {xs : List (List Nat)} (h : xs.length + 1 < 4096) : sortScK (xs.map D.str) = M.ret ((sortS (dedB xs)).map D.str) := by
  unfold sortScK
  rw [asTs_map, List.length_map]
  exact M.guard_of (decide_eq_true h)
end DL
set_option Elab.async false
set_option maxRecDepth 100000
set_option autoImplicit false
set_option linter.unusedVariables false
set_option maxHeartbeats 4000000
namespace QO
open PySem PySem.SeqAt
open AutoSeq1 (wpAny_loadPart')
open MeetsSeq MeetsSeq2 MeetsSeq3 SeqRoads2 GQ
section
variable {prog : Program} {w : World} {A : Around} {R : Result → Shared → Prop}
end
section
variable {prog : Program} {w : World} {A : Around} {E : Value → Shared → Prop} {s : Shared}
end
end QO
namespace DL
open PySem L2 PySem.Spec PyProof.Rows
variable [TAB : TabList]
variable [EFF : Eff]
set_option linter.unusedSectionVars false
section
variable {X : Cx} {pins : List (Addr × Obj)} {σ : L2.St} {H : Hp} {s : Shared} {C : Addr}
end
section
variable {X : Cx} {C g : Addr} {n : Nat} {R : List D → M D}
variable {a e : Expr} {f h : Env → M D} {pos : Pos} {fd : FuncData} {ps : List Str}
end
end DL
set_option Elab.async false
set_option maxRecDepth 100000
set_option autoImplicit false
set_option linter.unusedVariables false
set_option maxHeartbeats 4000000
namespace DL
open PySem L2 PySem.Spec PyProof.Rows
variable [TAB : TabList]
variable [EFF : Eff]
set_option linter.unusedSectionVars false
section
variable {P : Program} {w : World} {A : Around} {E : Value → Shared → Prop} {s : Shared} {a : Addr} {S : Key → Bool} {n : Nat}
set_option maxRecDepth 100000 in
set_option maxHeartbeats 3200000 in
end
section
variable {X : Cx}
end
end DL
set_option Elab.async false
set_option maxRecDepth 100000
set_option autoImplicit false
set_option linter.unusedVariables false
set_option maxHeartbeats 4000000
namespace DL
open PySem L2 PySem.Spec PyProof.Rows
variable [TAB : TabList]
variable [EFF : Eff]
set_option linter.unusedSectionVars false
section
variable {X : Cx} {a b : Expr} {f g : Env → M D} {pos : Pos}
theorem op_isntB : OpR X (compareOp .IsNot) (fun x y H Q => ∃ i j, x = .bl i ∧ y = .bl j ∧ Q (.bl (!decide (i = j))) H) := by
  intro pins s σ H x y v u Q I rx ry h
  obtain ⟨i, j, rfl, rfl, q⟩ := h
  cases (show v = Value.bool i from rx)
  cases (show u = Value.bool j from ry)
  exact wpAny_isNot_plain rfl (fin_bl I q (by cases i <;> cases j <;> rfl))
def isB (neg : Bool) : D → D → M D
  | .bl i, .bl j => M.ret (.bl (if neg then !decide (i = j) else decide (i = j)))
  | _, _ => M.fail
theorem snd_isntB {K : PySem.W.Frag} : SndR K (fun x y H Q => ∃ i j, x = .bl i ∧ y = .bl j ∧ Q (.bl (!decide (i = j))) H) (isB true) := by
  intro G H b x y dx dy d b' Q rx ry fz ob e q
  unfold isB at e
  split at e
  · cases e
    cases rx
    cases ry
    exact ⟨_, _, rfl, rfl, q _ G H (Nxt.refl fz ob) (.bl _)⟩
  · cases e
theorem t_isntB (ha : DE X a f) (hb : DE X b g) (hm : behindInMarks .IsNot b = false := by rfl) : DT X (.Compare a [.IsNot] [b] pos) (t2 (isB true) f g) := t_cmp op_isntB snd_isntB ha hb hm
end
theorem q_isB (i j : Bool) : isB false (.bl i) (.bl j) = M.ret (.bl (decide (i = j))) := rfl
theorem q_isntB (i j : Bool) : isB true (.bl i) (.bl j) = M.ret (.bl (!decide (i = j))) := rfl
end DL
set_option Elab.async false
set_option maxRecDepth 100000
set_option autoImplicit false
set_option linter.unusedVariables false
set_option maxHeartbeats 4000000
namespace DL
open PySem L2 PySem.Spec PyProof.Rows
variable [TAB : TabList]
variable [EFF : Eff]
set_option linter.unusedSectionVars false
section
variable {X : Cx} {a b : Expr} {f g : Env → M D} {pos : Pos}
end
end DL
set_option Elab.async false
set_option maxRecDepth 100000
set_option autoImplicit false
set_option linter.unusedVariables false
set_option maxHeartbeats 4000000
namespace DL
open PySem L2 PySem.Spec PyProof.Rows
variable [TAB : TabList]
variable [EFF : Eff]
set_option linter.unusedSectionVars false
structure SMetI (K : PySem.W.Frag) (C : Addr) (m : Str) (p g : Addr) : Prop where
  at_ : PySem.W.findIn K (.ref C) m = some (some (.ref p))
  ty : PySem.W.typeIn K (.ref p) = some (.type "staticmethod")
  ga : PySem.W.specialIn K (.ref p) "__get__" = some (some (.builtin "staticmethod.__get__"))
  tk : PySem.W.takesIn K (.ref p) = some false
  cp : PySem.W.copiedNames.contains m = false
  rc : ∃ rest, PySem.W.recIn K p "staticmethod" = some (.ref g :: rest)
  kp : PySem.W.keepIn K (.ref g) = true
section
variable {X : Cx} {CX : CXT} {k : Nat} {C p g : Addr} {sp : Sp} {E : XK} {o e : Expr} {es : List Expr} {m x : Str} {pos apos p2 : Pos} {ta : TE} {t : TA} {pl : Sem Bool} {fd : FuncData} {ps : List Str} {n : Nat} {Fl : List D → M (List D)} {f : Env → M D} {fa : Env → M (List D)} {c : Nat}
end
end DL
set_option Elab.async false
set_option maxRecDepth 100000
set_option autoImplicit false
set_option linter.unusedVariables false
set_option maxHeartbeats 4000000
namespace DL
open PySem L2 PySem.Spec PyProof.Rows
variable [TAB : TabList]
variable [EFF : Eff]
set_option linter.unusedSectionVars false
def catL : D → D → M (List D)
  | .lst x, .lst y => M.guard (szS (x.length + y.length)) (M.ret (x ++ y))
  | _, _ => M.fail
def n2 (h : D → D → M (List D)) (f g : Env → M D) : Env → M (List D) := fun ρ => M.bind (f ρ) fun x => M.bind (g ρ) fun y => h x y
section
variable {X : Cx} {a b : Expr} {f g : Env → M D} {pos : Pos}
theorem dn_cat (ha : DE X a f) (hb : DE X b g) : DN X (.BinOp a .Add b pos) (n2 catL f g) := by
  refine PEimp (pe_op op_cat ha hb) ?_
  rintro σ H Q ⟨ρ, G, b, d, b', rs, fz, ob, e, q⟩
  obtain ⟨x, b1, e1, e⟩ := M.bind_some e
  obtain ⟨y, b2, e2, e⟩ := M.bind_some e
  refine ⟨ρ, G, b, x, b1, rs, fz, ob, e1, fun v G1 H1 n1 r1 => ?_⟩
  refine ⟨ρ, G1, b1, y, b2, rs.mono n1.gg, n1.fz, n1.bag, e2, fun w G2 H2 n2 r2 => ?_⟩
  unfold catL at e
  split at e
  · rename_i xs ys
    obtain ⟨c, e⟩ := M.guard_some e
    cases e
    have r1 := r1.mono n2.gg
    cases r1 with
    | lst hx rx =>
      cases r2 with
      | lst hy ry =>
        refine ⟨_, _, _, _, rfl, rfl, n2.fz _ _ hx, n2.fz _ _ hy, by rw [rx.length, ry.length]; exact of_decide_eq_true c, fun p hp => ?_⟩
        have n3 := n1.trans n2
        exact q p _ G2 _ (n3.trans (Nxt.newH n3.fz n3.bag hp)) (by
          cases e0 : H p with
          | none => rfl
          | some o =>
            by_cases hb : b.hit p
            · have := bag_ne n3.bag hp
              rw [← Bs.like_at n3.like] at this
              exact absurd hb this
            · rw [n3.keep p o e0 hb] at hp; cases hp) (gnone n3.fz hp) upd_same (rx.append ry)
  · cases e
end
theorem q_n2 (ρ : Env) (h : D → D → M (List D)) (f g : Env → M D) : n2 h f g ρ = bnd (f ρ) fun x => bnd (g ρ) fun y => h x y := rfl
theorem q_catL {x y : List D} (h : x.length + y.length ≤ 16777216) : catL (.lst x) (.lst y) = M.ret (x ++ y) := M.guard_of (decide_eq_true h)
end DL
set_option Elab.async false
set_option maxRecDepth 100000
set_option autoImplicit false
set_option linter.unusedVariables false
set_option maxHeartbeats 4000000
namespace DL
open PySem L2 PySem.Spec PyProof.Rows
variable [TAB : TabList]
variable [EFF : Eff]
set_option linter.unusedSectionVars false
mutual
def D.noL (n : Nat) : D → Bool
  | .lst ds => !(decide (ds.length = n)) && D.noLs n ds
  | .tup ds => D.noLs n ds
  | .dct _ ds => D.noLs n ds
  | .dcT _ ds => D.noLs n ds
  | .obj _ ds => D.noLs n ds
  | .scr _ => false
  | .exc _ _ _ _ => false
  | .clo _ _ => false
  | .cel _ => true
  | .non => true
  | .bl _ => true
  | .int _ => true
  | .str _ => true
  | .bag _ => true
def D.noLs (n : Nat) : List D → Bool
  | [] => true
  | d :: ds => D.noL n d && D.noLs n ds
end
mutual
def O.noL (n : Nat) : O → Bool
  | .v d => d.noL n
  | .l xs => O.noLs n xs
  | .k _ xs => O.noLs n xs
  | .t _ xs => O.noLs n xs
  | .u xs => O.noLs n xs
def O.noLs (n : Nat) : List O → Bool
  | [] => true
  | x :: r => O.noL n x && O.noLs n r
end
theorem Same.sqtC {K : PySem.W.Frag} {G G2 : Hp} {n : Nat} (e : ∀ a o, G a = some o → (∀ us, o = .lst us → us.length ≠ n) → G2 a = some o) {a : Addr} {xs : List V} (h : SqT K G a xs) : SqT K G2 a xs := by
  rcases h with (h | ⟨o, h⟩) | h
  · exact .inl (.inl (e _ _ h fun _ z => nomatch z))
  · exact .inl (.inr ⟨o, e _ _ h fun _ z => nomatch z⟩)
  · exact .inr h
theorem rd_if {G G2 : Hp} {P : HO → Prop} (e : ∀ a o, G a = some o → P o → G2 a = some o) {a : Addr} {u : HO} (h1 : P u) (h2 : ∀ o, P (.frz o u)) (h : Rd G a u) : Rd G2 a u := by
  rcases h with h | ⟨o, h⟩
  · exact .inl (e _ _ h h1)
  · exact .inr ⟨o, e _ _ h (h2 o)⟩
theorem rd_cutK {G G2 : Hp} {n : Nat} (e : ∀ a o, G a = some o → (∀ us, o = .lst us → us.length ≠ n) → G2 a = some o) {a : Addr} {kvs : List (L2.Key × V)} (h : Rd G a (.dK kvs)) : Rd G2 a (.dK kvs) :=
  rd_if (P := fun o => ∀ us, o = .lst us → us.length ≠ n) e (fun _ z => by cases z) (fun _ _ z => by cases z) h
theorem rd_cutT {G G2 : Hp} {n : Nat} (e : ∀ a o, G a = some o → (∀ us, o = .lst us → us.length ≠ n) → G2 a = some o) {a : Addr} {kvs : List (List L2.Key × V)} (h : Rd G a (.dT kvs)) : Rd G2 a (.dT kvs) :=
  rd_if (P := fun o => ∀ us, o = .lst us → us.length ≠ n) e (fun _ z => by cases z) (fun _ _ z => by cases z) h
mutual
theorem Rp.cutN {K : PySem.W.Frag} {G G2 : Hp} {n : Nat} (e : ∀ a o, G a = some o → (∀ us, o = .lst us → us.length ≠ n) → G2 a = some o) : ∀ {v : V} {d : D}, Rp K G v d → d.noL n = true → Rp K G2 v d
  | _, _, .non, _ => .non
  | _, _, .bl b, _ => .bl b
  | _, _, .int i, _ => .int i
  | _, _, .str x, _ => .str x
  | _, _, .lst (vs := vs) (ds := ds) h r, f => by
    have f := (Bool.and_eq_true _ _).mp (show (!(decide (ds.length = n)) && D.noLs n ds) = true from f)
    refine .lst (e _ _ h fun us z => ?_) (RpL.cutN e r f.2)
    cases z
    rw [r.length]
    simpa using f.1
  | _, _, .tup h r, f => .tup (Same.sqtC e h) (RpL.cutN e r f)
  | _, _, .dct h l r, f => .dct (rd_cutK e h) l (RpL.cutN e r f)
  | _, _, .dcT h l r, f => .dcT (rd_cutT e h) l (RpL.cutN e r f)
  | _, _, .obj h0 h h2 r, f => .obj h0 (e _ _ h fun _ z => nomatch z) (e _ _ h2 fun _ z => nomatch z) (RpL.cutN e r f)
  | _, _, .bag p, _ => .bag p
  | _, _, .scr h, f => nomatch f
  | _, _, .exc _ _, f => nomatch f
  | _, _, .clo _ _ _ _, f => nomatch f
  | _, _, .cel h, _ => .cel (e _ _ h fun _ z => nomatch z)
theorem RpL.cutN {K : PySem.W.Frag} {G G2 : Hp} {n : Nat} (e : ∀ a o, G a = some o → (∀ us, o = .lst us → us.length ≠ n) → G2 a = some o) : ∀ {vs : List V} {ds : List D}, RpL K G vs ds → D.noLs n ds = true → RpL K G2 vs ds
  | _, _, .nil, _ => .nil
  | _, _, .cons (d := d) (ds := ds) a b, f => by
    have f := (Bool.and_eq_true _ _).mp (show (D.noL n d && D.noLs n ds) = true from f)
    exact .cons (Rp.cutN e a f.1) (RpL.cutN e b f.2)
end
mutual
theorem Ow.cut {K : PySem.W.Frag} {G G2 H : Hp} {n : Nat} (e : ∀ a o, G a = some o → (∀ us, o = .lst us → us.length ≠ n) → G2 a = some o) : ∀ {v : V} {o : O} {fp : List Addr}, Ow K G H v o fp → o.noL n = true → Ow K G2 H v o fp
  | _, _, _, .v r, f => .v (r.cutN e f)
  | _, _, _, .l hp r, f => .l hp (OwL.cut e r f)
  | _, _, _, .k hp hl r, f => .k hp hl (OwL.cut e r f)
  | _, _, _, .t hp hl r, f => .t hp hl (OwL.cut e r f)
  | _, _, _, .u hp r, f => .u (Same.sqtC e hp) (OwL.cut e r f)
theorem OwL.cut {K : PySem.W.Frag} {G G2 H : Hp} {n : Nat} (e : ∀ a o, G a = some o → (∀ us, o = .lst us → us.length ≠ n) → G2 a = some o) : ∀ {vs : List V} {os : List O} {fp : List Addr}, OwL K G H vs os fp → O.noLs n os = true → OwL K G2 H vs os fp
  | _, _, _, .nil, _ => .nil
  | _, _, _, .cons (x := x) (xs := xs) a b, f => by
    have f := (Bool.and_eq_true _ _).mp (show (O.noL n x && O.noLs n xs) = true from f)
    exact .cons (Ow.cut e a f.1) (OwL.cut e b f.2)
end
section
variable {K : PySem.W.Frag} {E : En} {σ : L2.St} {ρ : Env2} {G H G' H' : Hp} {b b' : Bs}
end
section
variable {X : Cx} {pos : Pos}
end
end DL
set_option Elab.async false
set_option maxRecDepth 100000
set_option autoImplicit false
set_option linter.unusedVariables false
set_option maxHeartbeats 4000000
namespace DL
open PySem L2 PySem.Spec PyProof.Rows
variable [TAB : TabList]
variable [EFF : Eff]
set_option linter.unusedSectionVars false
section
variable {X : Cx} {pos : Pos} {f g : Env → M D} {fa : Env → M (List D)}
end
section
variable {prog : Program} {w : World} {A : Around} {E : Value → Shared → Prop} {s : Shared}
end
section
variable {X : Cx} {pos : Pos} {f g : Env → M D}
theorem RpL.reverse {K : PySem.W.Frag} {G : Hp} {vs : List V} {ds : List D} (r : RpL K G vs ds) : RpL K G vs.reverse ds.reverse := by
  induction ds generalizing vs with
  | nil => cases r; exact .nil
  | cons d ds ih =>
    cases r with
    | cons a b =>
      rw [List.reverse_cons, List.reverse_cons]
      exact RpL.append (ih b) (.cons a .nil)
end
end DL
set_option Elab.async false
set_option maxRecDepth 100000
set_option autoImplicit false
set_option linter.unusedVariables false
set_option maxHeartbeats 4000000
namespace DL
open PySem L2 PySem.Spec PyProof.Rows
variable [TAB : TabList]
variable [EFF : Eff]
set_option linter.unusedSectionVars false
section
variable {X : Cx} {a b : Expr} {f g : Env → M D} {pos : Pos}
end
section
variable {X : Cx} {pos : Pos} {fa : Env → M (List D)}
end
section
variable {X : Cx} {pos : Pos} {f g h : Env → M D}
end
end DL
set_option Elab.async false
set_option maxRecDepth 100000
set_option autoImplicit false
set_option linter.unusedVariables false
set_option maxHeartbeats 4000000
namespace DL
open PySem L2 PySem.Spec PyProof.Rows
variable [TAB : TabList]
variable [EFF : Eff]
set_option linter.unusedSectionVars false
inductive FP : V → PyData → Prop
  | non : FP .non .none
  | bl (b : Bool) : FP (.bl b) (.bool b)
  | int (i : Int) : FP (.int i) (.int i)
  | str (x : Str) : FP (.str x) (.str x)
def fPy : D → Option PyData
  | .non => some .none
  | .bl b => some (.bool b)
  | .int i => some (.int i)
  | .str x => some (.str ⟨x.toArray⟩)
  | _ => none
theorem FP.of {K : PySem.W.Frag} {G : Hp} {v : V} {d : D} {p : PyData} (r : Rp K G v d) (h : fPy d = some p) : FP v p := by
  cases r <;> first | (cases h; constructor; done) | (cases h)
section
variable {X : Cx}
end
section
variable {X : Cx} {pos : Pos}
end
section
variable {X : Cx} {a b : Expr} {f g : Env → M D} {pos : Pos}
end
end DL
set_option Elab.async false
set_option maxRecDepth 100000
set_option autoImplicit false
set_option linter.unusedVariables false
set_option maxHeartbeats 4000000
namespace DL
open PySem L2 PySem.Spec PyProof.Rows
variable [TAB : TabList]
variable [EFF : Eff]
set_option linter.unusedSectionVars false
section
variable {X : Cx} {pos : Pos}
end
end DL
set_option Elab.async false
set_option maxRecDepth 100000
set_option autoImplicit false
set_option linter.unusedVariables false
set_option maxHeartbeats 4000000
namespace DL
open PySem L2 PySem.Spec PyProof.Rows
variable [TAB : TabList]
section
variable [EFF : Eff]
set_option linter.unusedSectionVars false
inductive XR where
  | d (x : D) | l (xs : List D)
def XR.toD : XR → D
  | .d x => x
  | .l xs => .lst xs
def QX (K : PySem.W.Frag) (G H : Hp) (b b' : Bs) (Q : VK) : XR → Prop
  | .d d => d.flat = true ∧ ∀ v G' H', Nxt G H b G' H' b' → Rp K G' v d → Q v H'
  | .l xs => ∀ p ws G' H', Nxt G H b G' H' b' → H p = none → G' p = none → H' p = some (.lst ws) → RpL K G' ws xs → Q (.ref p) H'
end
section
variable {P : Program} {w : World} {K : PySem.W.Frag} {mg : Str → Option Value} {base : Heap}
variable {x qual : Str} {st : Stmt} {f : Addr} {fd : FuncData} {N ps : List Str} {k : Nat} {Fs : Env2 → M Out}
end
variable [EFF : Eff]
section
variable {X : Cx} {k : Nat} {f : Addr} {fd : FuncData} {ps : List Str} {x : Str} {p pos : Pos} {e : Expr} {es : List Expr} {n : Nat} {Fl : List D → M XR} {fa : Env → M (List D)}
theorem QX.weak {K : PySem.W.Frag} {G H G1 H1 : Hp} {b b1 b' : Bs} {Q : VK} {x : XR} (n : Nxt G H b G1 H1 b1) (q : QX K G H b b' Q x) : QX K G1 H1 b1 b' Q x := by
  cases x with
  | d d => exact ⟨q.1, fun v G2 H2 n2 r => q.2 v G2 H2 (n.trans n2) r⟩
  | l xs => exact fun p ws G2 H2 n2 hp gp hh r => q p ws G2 H2 (n.trans n2) (n.free hp) gp hh r
theorem q_guardT {α : Type} (m : M α) : M.guard true m = m := rfl
end
end DL
set_option Elab.async false
set_option maxRecDepth 100000
set_option autoImplicit false
set_option linter.unusedVariables false
set_option maxHeartbeats 4000000
namespace DL
open PySem L2 PySem.Spec PyProof.Rows
variable [TAB : TabList]
variable [EFF : Eff]
set_option linter.unusedSectionVars false
section
open SrtO Srt
abbrev TKey := Int × List Nat
variable {prog : Program} {w : World} {A : Around} {s : Shared}
section
variable {X : Cx}
inductive Tps (K : PySem.W.Frag) (G : Hp) : List V → List TKey → Prop
  | nil : Tps K G [] []
  | cons {t : Addr} {k : TKey} {xs : List V} {ks : List TKey} : SqT K G t [.int k.1, .str ⟨k.2.toArray⟩] → Tps K G xs ks → Tps K G (.ref t :: xs) (k :: ks)
def PT (K : PySem.W.Frag) (G : Hp) (u : Value) (k : TKey) : Prop := ∃ t, u = .ref t ∧ SqT K G t [.int k.1, .str ⟨k.2.toArray⟩]
end
end
end DL
set_option Elab.async false
set_option maxRecDepth 100000
set_option autoImplicit false
set_option linter.unusedVariables false
set_option maxHeartbeats 4000000
namespace DL
open PySem L2 PySem.Spec PyProof.Rows
variable [TAB : TabList]
variable [EFF : Eff]
set_option linter.unusedSectionVars false
section
variable {X : Cx} {pos : Pos}
end
end DL
set_option Elab.async false
set_option maxRecDepth 100000
set_option autoImplicit false
set_option linter.unusedVariables false
set_option maxHeartbeats 4000000
namespace DL
open PySem L2 PySem.Spec PyProof.Rows
variable [TAB : TabList]
variable [EFF : Eff]
set_option linter.unusedSectionVars false
section
variable {X : Cx} {pos : Pos} {a b : Expr} {rest : List Expr}
end
end DL
set_option Elab.async false
set_option maxRecDepth 100000
set_option autoImplicit false
set_option linter.unusedVariables false
set_option maxHeartbeats 4000000
namespace PySem
namespace ErrX
open PySem.W PySem.Calls PyProof.Rows PySem.HandSPX
def iA (f : Str) (p1 p2 : Pos) : Arguments := { posonlyargs := [], args := [{ arg := "self", annotation := none, pos := p1 }, { arg := f, annotation := none, pos := p2 }], vararg := none, kwonlyargs := [], kw_defaults := [], kwarg := none, defaults := [] }
def iB (t f : Str) (j : Nat) (q0 q1 q2 q3 q4 q5 q6 q7 q8 q9 : Pos) : List Stmt := [.Expr (.Call (.Attribute (.Call (.Name "super" q0) [] [] q1) "__init__" q2) [.Constant (.str t) j q3] [] q4) q5, .Assign [.Attribute (.Name "self" q6) f q7] (.Name f q8) q9]
def iS (f : Str) : Scope := { kind := .function, names := [(PySem.Str.ofString "self", .local), (f, .local), (PySem.Str.ofString "__class__", .free), (PySem.Str.ofString "super", .globalImplicit)], isGenerator := false, isCoroutine := false, more := [] }
structure PrOk (P : Program) (file : Str) : Prop where
  fl : (P.main.file == file) = true
  top : (P.main.scope.names.lookup ("super" : Str)).isSome = false
structure ErrTxt (P : Program) (K : Frag) (mg : Str → Option Value) (x f : Str) (C fI : Addr) : Prop where
  gC : mg x = some (.ref C)
  cls : ∃ nm q N bs bm sn sub ab col dd k0 k1 k2 k3 k5, K.lookup C = some (excClassObj nm q C N bs bm true sn sub ab col dd k0 k1 k2 k3 k5 "ValueError.__new__") ∧ refsVE bm = true
  sa : findIn K (.ref C) "__setattr__" = some (some (.builtin "object.__setattr__"))
  xf : L2.XfC K C
  isx : L2.ExcC K C
  noN : findIn K (.ref C) f = some none
  iC : findIn K (.ref C) "__init__" = some (some (.ref fI))
  tC : typeIn K (.ref fI) = some (.type "function")
  kC : keepIn K (.ref C) = true
  tyC : typeIn K (.ref C) = some (.type "type")
  su : ks_superIn K C C "__init__" = some (some (.builtin "ValueError.__init__"))
  sub : mroIn K C (.ref C) = some true
  subV : subIn K (.ref C) (.type "ValueError") = some true
  noS : nsIn K mainGlobals "super" = some none
  opq : nsIn K cStatics "thirdparty.any" = some none
  lkf : (iS f).names.lookup f = some .local
  lkS : (iS f).names.lookup ("super" : Str) = some .globalImplicit
  lkC : (iS f).names.lookup ("__class__" : Str) = some .free
  fne : (("self" : Str) == f) = false
  fdb : (f == ("__debug__" : Str)) = false
  fn : ∃ (oc : Value) (od : Option Addr) (dV kV doc pm : Value) (an : Option Addr) (cda cc : Addr) (ct : Value) (osl : Array (Option Value)) (qual t : Str) (j : Nat) (p1 p2 q0 q1 q2 q3 q4 q5 q6 q7 q8 q9 : Pos) (fd : FuncData) (ccl cl : Value) (cdd cld : Option Addr) (vs : Array Value) (ccs csl : Array (Option Value)) (file : Str) (tf : Tok),
    (∀ L : Addr, ∃ pl : Sem Bool, eval (.Call (.Attribute (.Call (.Name "super" q0) [] [] q1) "__init__" q2) [.Constant (.str t) j q3] [] q4) (ksEnv qual (iS f) L fI (.ref cda) cc) = (do
      let ov ← attributeBase (.Call (.Name "super" q0) [] [] q1) "__init__" (ksEnv qual (iS f) L fI (.ref cda) cc) (eval (.Call (.Name "super" q0) [] [] q1) (ksEnv qual (iS f) L fI (.ref cda) cc))
      standAt q2.atName
      let (fu, first) ← holding [ov] (getMethod ov "__init__" pl)
      callWith q4 fu first (backTo q4 (starEach [.Constant (.str t) j q3] (ksEnv qual (iS f) L fI (.ref cda) cc))) [])) ∧
    K.lookup fI = some ⟨oc, od, .func fd, osl⟩ ∧ fd = ksFn "__init__" qual (iA f p1 p2) (iB t f j q0 q1 q2 q3 q4 q5 q6 q7 q8 q9) (iS f) dV kV doc pm an (.ref cda) ct cc ∧ codeIn K (.ref cda) qual = true ∧ (∀ (s : Shared) (a b : Value), BindsTo s fd ⟨[a, b], []⟩ [("self", a), (f, b)]) ∧
    K.lookup cda = some ⟨ccl, cdd, .fields vs, ccs⟩ ∧ vs[2]? = some (.str file tf) ∧ PrOk P file ∧ K.lookup cc = some ⟨cl, cld, .cell (some (.ref C)), csl⟩
structure InitEnd (h h' : Heap) (x C dx t1 : Addr) (f : Str) (v : Value) : Prop where
  keep : ∀ b o, b ≠ x → h.get? b = some o → h'.get? b = some o
  obj : h'.get? x = some { cls := .ref C, dict := some dx, data := .fields #[.ref t1, .none, .none, .none, .bool false, .none] }
  dbig : h.objs.size ≤ dx
  dne : dx ≠ x
  ns : h'.Ns1 dx (fun y => if y = f then some v else none)
structure OwnMade (h h' : Heap) (e C d : Addr) (f : Str) (v : Value) : Prop where
  keep : ∀ b o, h.get? b = some o → h'.get? b = some o
  new : h.objs.size ≤ e
  obj : ∃ oe vs, h'.get? e = some oe ∧ oe.cls = .ref C ∧ oe.dict = some d ∧ oe.data = .fields vs ∧ vs[1]? = some .none
  dbig : h.objs.size ≤ d
  dne : d ≠ e
  ns : h'.Ns1 d (fun y => if y = f then some v else none)
section
variable {prog : Program} {w : World} {A : Around} {E : Value → Shared → Prop} {h : Heap} {g : Array GenState} {d : Drawn} {t : Nat} {os : OsState}
variable {nm q : Str} {C N : Addr} {bs bm : List Value} {hdct : Bool} {sn : List Str} {sub : List Value} {ab : Bool} {col : Option Bool} {dd : Option Addr} {k0 k1 k2 k3 k5 : Option Value}
end
section
variable {P : Program} {w : World} {A : Around} {E : Value → Shared → Prop} {R : Result → Shared → Prop} {s : Shared} {K : Frag} {mg mb : Str → Option Value} {C fI : Addr} {x0 f : Str}
end
end ErrX
end PySem
namespace PySem
namespace ErrX
open PySem.W PySem.Calls PyProof.Rows PySem.HandSPX
section
variable {P : Program} {w : World} {A : Around} {E : Value → Shared → Prop} {R : Result → Shared → Prop} {s : Shared} {K : Frag} {mg mb : Str → Option Value} {C fI : Addr} {x0 f : Str}
end
end ErrX
end PySem
namespace PySem.W
open PySem PySem.Spec PySem.Calls PyProof.Rows
section
variable {prog : Program} {w : World} {A : Around} {E : Value → Shared → Prop} {s : Shared} {K : Frag} {x D : Addr} {ox : Obj} {od : Option Obj}
end
end PySem.W
namespace L2
open PySem PySem.Spec PyProof.Rows
section
variable {X : Cx} {C fI : Addr} {x f : Str}
end
end L2
set_option Elab.async false
set_option maxRecDepth 100000
set_option autoImplicit false
set_option linter.unusedVariables false
set_option maxHeartbeats 4000000
namespace DL
open PySem L2 PySem.Spec PyProof.Rows
variable [TAB : TabList]
section
variable [EFF : Eff]
set_option linter.unusedSectionVars false
inductive OutE where
  | o (x : Out) | ex (c : Nat) (fs : List D) (ρ : Env2)
inductive ER where
  | ok (d : D) | ex (c : Nat) (fs : List D)
abbrev ErrC (K : PySem.W.Frag) (c : Nat) (C : Addr) : Prop := PySem.W.nsIn K mainGlobals (errName c) = some (some (.ref C))
def ExP (K : PySem.W.Frag) (c : Nat) (fs : List D) (G : Hp) (cls : Value) (d : Option Addr) : Prop := ∃ C vs, ErrC K c C ∧ cls = .ref C ∧ ExD G d c vs ∧ RpL K G vs fs
def FinE (K : PySem.W.Frag) (E : En) (Dn : Ends) (W : WX) (b' : Bs) : OutE → Prop
  | .o x => Fin K E Dn b' x
  | .ex c fs ρ => ∀ σ' G' H' cls d, SI K E σ' ρ G' H' b' → ExP K c fs G' cls d → W cls d σ' H'
def QE (K : PySem.W.Frag) (G H : Hp) (b b' : Bs) (Q : VK) (Ex : XK) : ER → Prop
  | .ok d => ∀ v G' H', NxtB EFF.x G H b G' H' b' → Rp K G' v d → Q v H'
  | .ex c fs => ∀ G' H' cls d, NxtB EFF.x G H b G' H' b' → ExP K c fs G' cls d → Ex cls d H'
section
variable {P : Program} {w : World} {K : PySem.W.Frag} {mg : Str → Option Value} {base : Heap}
variable {x qual : Str} {st : Stmt} {f : Addr} {fd : FuncData} {N ps : List Str} {k : Nat} {Fs : Env2 → M OutE}
end
section
variable {X : Cx} {W : WX} {st : Stmt} {rest : List Stmt} {F : Env2 → M Out} {F1 F2 : Env2 → M OutE} {pos : Pos}
end
theorem QE.weak {K : PySem.W.Frag} {G H G1 H1 : Hp} {b b1 b' : Bs} {Q : VK} {Ex : XK} {x : ER} (n : Nxt G H b G1 H1 b1) (q : QE K G H b b' Q Ex x) : QE K G1 H1 b1 b' Q Ex x := by
  cases x with
  | ok d => exact fun v G2 H2 n2 r => q v G2 H2 (n.upB.trans n2) r
  | ex c fs => exact fun G2 H2 cls d n2 r => q G2 H2 cls d (n.upB.trans n2) r
section
variable {X : Cx} {W : WX} {k : Nat} {f : Addr} {fd : FuncData} {ps : List Str} {x : Str} {p pos : Pos} {e a a2 : Expr} {es : List Expr} {n : Nat} {Fl : List D → M ER} {fa : Env → M (List D)}
end
theorem SI.clear {K : PySem.W.Frag} {E : En} {σ : L2.St} {ρ : Env2} {G H : Hp} {b : Bs} (I : SI K E σ ρ G H b) (i : Nat) : SI K E (σ.set i none) (ρ.set i none) G H b := by
  obtain ⟨fp, w⟩ := I.own
  have old : ∀ {j : Nat} {s : Slot}, (ρ.set i none)[j]? = some (some s) → i ≠ j ∧ ρ[j]? = some (some s) := fun {j s} h => by
    by_cases hj : i = j
    · subst hj
      by_cases hi : i < ρ.length
      · rw [List.getElem?_set_self hi] at h; cases h
      · rw [List.getElem?_eq_none (by simpa using hi)] at h; cases h
    · exact ⟨hj, by rw [List.getElem?_set_ne hj] at h; exact h⟩
  refine ⟨I.fz, I.g0, I.new, I.keep, I.bag, I.like, by simpa using I.len, fun j d' h => ?_, fp, fun j s o h1 h2 => ?_, w.ok, w.nd, w.dj⟩
  · obtain ⟨hj, h⟩ := old h
    obtain ⟨u, e1, e2⟩ := I.val j d' h
    exact ⟨u, by rw [List.getElem?_set_ne hj]; exact e1, e2⟩
  · obtain ⟨hj, h1⟩ := old h1
    obtain ⟨u, e1, e2⟩ := w.at_ j s o h1 h2
    exact ⟨u, by rw [List.getElem?_set_ne hj]; exact e1, e2⟩
section
variable {X : Cx} {x n : Str} {cw : Value} {i : Nat} {body suite : List Stmt} {b₀ : Stmt} {np pos pos' : Pos} {cs : List Nat} {Fb : Env2 → M OutE} {Fh : Addr → Option Addr → Nat → Env2 → M Out}
end
section
variable {X : Cx} {a : Addr} {oe : Obj} {c c' : Nat} {C C' : Addr} {d : Option Addr} {pn : List (Addr × Obj)} {x : Str} {e : Expr} {f : Env → M D} {p p2 pos : Pos}
end
section
variable (ρ : Env) (ρ2 : Env2) (ms : List Nat)
end
end
section
variable {X : Cx} {W : WX} {e : Expr} {pos : Pos}
end
end DL
set_option Elab.async false
set_option maxRecDepth 100000
set_option autoImplicit false
set_option linter.unusedVariables false
set_option maxHeartbeats 4000000
namespace DL
open PySem L2 PySem.Spec PyProof.Rows PySem.ErrX PySem.W
variable [TAB : TabList]
variable [EFF : Eff]
set_option linter.unusedSectionVars false
section
variable {X : Cx} {W : WX} {st : Stmt} {rest : List Stmt} {F : Env2 → M Out}
end
structure ErrText (st : Stmt) (f : Str) : Prop where
  ex : ∃ (t : Str) (j : Nat) (p1 p2 q0 q1 q2 q3 q4 q5 q6 q7 q8 q9 : Pos), defArgs st = iA f p1 p2 ∧ defBody st = iB t f j q0 q1 q2 q3 q4 q5 q6 q7 q8 q9 ∧ defScope st = iS f ∧
    (∀ (qual : Str) (L fI cda cc : Addr), ∃ pl : Sem Bool, eval (.Call (.Attribute (.Call (.Name "super" q0) [] [] q1) "__init__" q2) [.Constant (.str t) j q3] [] q4) (ksEnv qual (iS f) L fI (.ref cda) cc) = (do
      let ov ← attributeBase (.Call (.Name "super" q0) [] [] q1) "__init__" (ksEnv qual (iS f) L fI (.ref cda) cc) (eval (.Call (.Name "super" q0) [] [] q1) (ksEnv qual (iS f) L fI (.ref cda) cc))
      standAt q2.atName
      let (fu, first) ← holding [ov] (getMethod ov "__init__" pl)
      callWith q4 fu first (backTo q4 (starEach [.Constant (.str t) j q3] (ksEnv qual (iS f) L fI (.ref cda) cc))) []))
structure FldOk (f : Str) : Prop where
  lkf : (iS f).names.lookup f = some .local
  lkS : (iS f).names.lookup ("super" : Str) = some .globalImplicit
  lkC : (iS f).names.lookup ("__class__" : Str) = some .free
  fne : (("self" : Str) == f) = false
  fdb : (f == ("__debug__" : Str)) = false
structure ErrAt (P : Program) (K : PySem.W.Frag) (mg : Str → Option Value) (c : Nat) (C fI : Addr) : Prop where
  at_ : ErrC K c C
  tx : ErrTxt P K mg (errName c) (errFld c) C fI
  ic : PySem.W.isClsIn K C = true
theorem ErrAt.uniq {P : Program} {K : PySem.W.Frag} {mg : Str → Option Value} {c : Nat} {C C2 fI : Addr} (h : ErrAt P K mg c C fI) (h2 : ErrC K c C2) : C2 = C := by
  have := h.at_.symm.trans h2
  cases this
  rfl
end DL
set_option Elab.async false
set_option maxRecDepth 100000
set_option autoImplicit false
set_option linter.unusedVariables false
set_option maxHeartbeats 4000000
namespace DL
open PySem L2 PySem.Spec PyProof.Rows
variable [TAB : TabList]
variable [EFF : Eff]
set_option linter.unusedSectionVars false
section
variable {X : Cx} {k : Nat} {f : Addr} {fd : FuncData} {ps : List Str} {x : Str} {p pos : Pos} {e : Expr} {es : List Expr} {n : Nat} {Fn : List D → M D} {fa : Env → M (List D)}
end
theorem SI.flatV {K : PySem.W.Frag} {E : En} {σ : L2.St} {ρ : Env2} {G H G' H' : Hp} {b b' : Bs} (I : SI K E σ ρ G H b) {ms : List Nat} {fp : Nat → List Addr} (w : OwnAll K E.H σ ρ G H b fp) (n : Nxt (I.gp ms) H b G' H' b') : OwnAll K E.H σ ρ G H' b' fp := by
  refine ⟨fun i s o h1 h2 => ?_, fun i a ha => ?_, w.nd, w.dj⟩
  · obtain ⟨v, h3, h4⟩ := w.at_ i s o h1 h2
    refine ⟨v, h3, h4.mono (fun _ _ h => h) fun a ha => ?_⟩
    obtain ⟨_, _, k3, k4⟩ := w.ok i a ha
    obtain ⟨u, hu⟩ := some_of k4
    rw [n.keep a u hu k3, hu]
  · obtain ⟨k1, k2, k3, k4⟩ := w.ok i a ha
    obtain ⟨u, hu⟩ := some_of k4
    refine ⟨k1, k2, by rw [← Bs.like_at n.like]; exact k3, ?_⟩
    rw [n.keep a u hu k3]
    exact fun z => nomatch z
theorem q_toDu (xs : List O) : (O.u xs).toD = .tup (O.toDs xs) := rfl
theorem q_flu (xs : List O) : (O.u xs).fl = false := rfl
section
variable {X : Cx} {pos : Pos}
end
end DL
set_option Elab.async false
set_option maxRecDepth 100000
set_option autoImplicit false
set_option linter.unusedVariables false
set_option maxHeartbeats 4000000
namespace DL
open PySem L2 PySem.Spec PyProof.Rows
variable [TAB : TabList]
variable [EFF : Eff]
set_option linter.unusedSectionVars false
section
variable {K : PySem.W.Frag} {E : En} {σ : L2.St} {ρ : Env2} {G H : Hp} {b b' : Bs}
end
section
variable {X : Cx} {pos : Pos}
end
end DL
set_option Elab.async false
set_option maxRecDepth 100000
set_option autoImplicit false
set_option linter.unusedVariables false
set_option maxHeartbeats 4000000
namespace DL
open PySem L2 PySem.Spec PyProof.Rows PySem.W
variable [TAB : TabList]
variable [EFF : Eff]
set_option linter.unusedSectionVars false
def encD (d : D) : PyData := (toPy d).getD .none
structure SortD (ds : List D) : Prop where
  py : ∀ d ∈ ds, ∃ e, toPy d = some e ∧ encD d = e
  al : AllAlike (ds.map encD)
  so : Sortable (ds.map encD)
  dp : ∀ d ∈ ds, (encD d).depth ≤ 60
  sz : ds.length ≤ sizeLine
section
variable {X : Cx}
end
section
variable {X : Cx} {a b : Expr} {f g : DL.Env → M D} {pos : Pos}
end
end DL
set_option Elab.async false
set_option maxRecDepth 100000
set_option autoImplicit false
set_option linter.unusedVariables false
set_option maxHeartbeats 4000000
namespace DL
open PySem L2 PySem.Spec PyProof.Rows
variable [TAB : TabList]
variable [EFF : Eff]
set_option linter.unusedSectionVars false
def bLst (n : Nat) (f : List D → Option (List (Nat × D))) : D → Option (List (Nat × D))
  | .lst ds => if ds.length = n then f ds else none
  | _ => none
theorem tg_lst {K : PySem.W.Frag} {gs : TGs} {fs : List D → Option (List (Nat × D))} {is : List Nat} (n : Nat) (h : TgsOk K gs fs is) : TgOk K (gUnl K n gs) (bLst n fs) is := by
  intro G v d l r e
  cases r with
  | @lst a vs ds h1 h2 =>
    have e' : (if ds.length = n then fs ds else none) = some l := e
    by_cases hn : ds.length = n
    · rw [if_pos hn] at e'
      obtain ⟨lv, p1, i1, q1⟩ := h G vs ds l h2 e'
      exact ⟨lv, p1, i1, fun H σ Q s q => ⟨a, vs, rfl, SqL.of (s _ _ h1), by rw [h2.length]; exact hn, q1 H σ Q s q⟩⟩
    · rw [if_neg hn] at e'; cases e'
  | _ => cases e
theorem q_bLst (n : Nat) (f : List D → Option (List (Nat × D))) (ds : List D) : bLst n f (.lst ds) = if ds.length = n then f ds else none := rfl
end DL
set_option Elab.async false
set_option maxRecDepth 100000
set_option autoImplicit false
set_option linter.unusedVariables false
set_option maxHeartbeats 4000000
namespace DL
open PySem L2 PySem.Spec PyProof.Rows
variable [TAB : TabList]
variable [EFF : Eff]
set_option linter.unusedSectionVars false
end DL
set_option Elab.async false
set_option maxRecDepth 100000
set_option autoImplicit false
set_option linter.unusedVariables false
set_option maxHeartbeats 4000000
namespace DL
open PySem L2 PySem.Spec PyProof.Rows
variable [TAB : TabList]
variable [EFF : Eff]
set_option linter.unusedSectionVars false
section
variable {X : Cx}
def InCl (cl : List (Str × Addr)) (a : Addr) : Prop := ∃ y, cl.lookup y = some a
variable {cl : List (Str × Addr)} {G G' H H' H1 H2 : Hp} {a : Addr} {o : HO}
structure AddC (cl : List (Str × Addr)) (l : LamI) (is : List Nat) (σ : L2.St) (H H2 : Hp) : Prop where
  ck : ClK l cl
  out : ∀ a, ¬ InCl cl a → H2 a = H a
  inn : ∀ a, InCl cl a → H a = none ∧ ∃ o v, H2 a = some (CellX a o) ∧ o.data = .cell v
  val : ∀ (j : Nat) (y : Str) (i : Nat) (v : V), l.frees[j]? = some y → is[j]? = some i → σ[i]? = some (some v) → ∃ c o u, cl.lookup y = some c ∧ H2 c = some (CellX c o) ∧ o.data = .cell (some u) ∧ RelV v u
structure OwnCl (X : Cx) (l : LamI) (cl : List (Str × Addr)) (is : List Nat) : Prop where
  ours : ∀ y c, cl.lookup y = some c → X.env.cells.lookup y = some c ∧ X.fn y = true ∧ y ∈ l.frees
  has : ∀ (j : Nat) (y : Str) (i : Nat), l.frees[j]? = some y → is[j]? = some i → X.N[i]? = some y ∧ X.env.scope.names.lookup y = some .cell ∧ ∃ c, cl.lookup y = some c
section
variable {pins : List (Addr × Obj)} {σ : L2.St} {s : Shared} {l : LamI} {is : List Nat}
end
end
def Pln (o : HO) : Prop := (∀ φ, o ≠ .ext φ) ∨ ∃ a C dx vs, o = SlX.SlO a C dx vs
theorem cell_ne_ext {φ : Heap → Prop} {a : Addr} {oc : Obj} {v : Option Value} (hc : oc.data = .cell v) (h : ∀ hp : Heap, φ hp → ∃ a o, hp.get? a = some o ∧ ∀ v, o.data ≠ .cell v) : HO.ext φ ≠ CellX a oc := fun z => by
  unfold CellX at z
  have e := HO.ext.inj z
  have hd : oc.data ≠ .freed := fun z => by rw [hc] at z; cases z
  have p : φ { objs := Array.replicate (a + 1) oc } := by
    rw [e]
    exact rep_get? _ oc hd (Nat.lt_succ_self a)
  obtain ⟨b, o, h1, h2⟩ := h _ p
  have := get?_rep _ oc hd h1
  subst this
  exact h2 _ hc
theorem slO_data {a C dx : Addr} {vs : List (Option V)} {hp : Heap} (h : ∃ sl : Array (Option Value), hp.get? a = some { PySem.W.instObj C dx with slots := sl } ∧ SlX.SlR vs sl) : ∃ a o, hp.get? a = some o ∧ o.data = .plain := by
  obtain ⟨sl, h1, _⟩ := h
  exact ⟨a, _, h1, rfl⟩
theorem Pln.cell {o : HO} {a : Addr} {oc : Obj} {v : Option Value} (p : Pln o) (hc : oc.data = .cell v) : o ≠ CellX a oc := by
  rcases p with p | ⟨a2, C, dx, vs, rfl⟩
  · intro z
    unfold CellX at z
    exact p _ z
  · refine cell_ne_ext hc fun hp h => ?_
    obtain ⟨a, o, h1, h2⟩ := slO_data h
    exact ⟨a, o, h1, fun v z => by rw [h2] at z; cases z⟩
theorem Pln.code {o : HO} {c : Addr} {q : Str} (p : Pln o) : o ≠ LamX.CodeO c q := by
  rcases p with p | ⟨a2, C, dx, vs, rfl⟩
  · exact codeO_ne p
  · refine ext_ne fun hp h => ?_
    obtain ⟨a, o, h1, h2⟩ := slO_data h
    exact ⟨a, o, h1, fun v z => by rw [h2] at z; cases z⟩
theorem Same.sqtW {K : PySem.W.Frag} {G G' : Hp} {a : Addr} {xs : List V} (h : ∀ a o, G a = some o → Pln o → G' a = some o) (r : SqT K G a xs) : SqT K G' a xs := by
  rcases r with (r | ⟨o, r⟩) | r
  · exact .inl (.inl (h _ _ r (.inl fun φ z => by cases z)))
  · exact .inl (.inr ⟨o, h _ _ r (.inl fun φ z => by cases z)⟩)
  · exact .inr r
theorem Same.sqlW {K : PySem.W.Frag} {G G' : Hp} {a : Addr} {xs : List V} (h : ∀ a o, G a = some o → Pln o → G' a = some o) (r : SqL K G a xs) : SqL K G' a xs := by
  rcases r with (r | ⟨o, r⟩) | r
  · exact .inl (.inl (h _ _ r (.inl fun φ z => by cases z)))
  · exact .inl (.inr ⟨o, h _ _ r (.inl fun φ z => by cases z)⟩)
  · exact .inr r
theorem ExD.weak {G G' : Hp} (h : ∀ a o, G a = some o → Pln o → G' a = some o) : ∀ {dx : Option Addr} {c : Nat} {vs : List V}, ExD G dx c vs → ExD G' dx c vs
  | some _, _, [_], e => h _ _ e (.inl fun φ z => by cases z)
  | none, _, [], _ => trivial
  | some _, _, [], e => e.elim
  | some _, _, _ :: _ :: _, e => e.elim
  | none, _, _ :: _, e => e.elim
theorem rd_plnK {G G' : Hp} (h : ∀ a o, G a = some o → Pln o → G' a = some o) {a : Addr} {kvs : List (L2.Key × V)} (e : Rd G a (.dK kvs)) : Rd G' a (.dK kvs) := rd_if h (.inl fun φ z => by cases z) (fun o => .inl fun φ z => by cases z) e
theorem rd_plnT {G G' : Hp} (h : ∀ a o, G a = some o → Pln o → G' a = some o) {a : Addr} {kvs : List (List L2.Key × V)} (e : Rd G a (.dT kvs)) : Rd G' a (.dT kvs) := rd_if h (.inl fun φ z => by cases z) (fun o => .inl fun φ z => by cases z) e
mutual
theorem Rp.weak {K : PySem.W.Frag} {G G' : Hp} (h : ∀ a o, G a = some o → Pln o → G' a = some o) : ∀ {v : V} {d : D}, d.noc = true → Rp K G v d → Rp K G' v d
  | _, _, _, .non => .non
  | _, _, _, .bl b => .bl b
  | _, _, _, .int i => .int i
  | _, _, _, .str x => .str x
  | _, _, p, .lst e r => .lst (h _ _ e (.inl fun φ z => by cases z)) (RpL.weak h p r)
  | _, _, p, .tup e r => .tup (Same.sqtW h e) (RpL.weak h p r)
  | _, _, p, .dct e l r => .dct (rd_plnK h e) l (RpL.weak h p r)
  | _, _, p, .dcT e l r => .dcT (rd_plnT h e) l (RpL.weak h p r)
  | _, _, p, .obj h0 e h2 r => .obj h0 (h _ _ e (.inr ⟨_, _, _, _, rfl⟩)) (h _ _ h2 (.inl fun φ z => by cases z)) (RpL.weak h p r)
  | _, _, _, .bag p => .bag p
  | _, _, _, .scr e => .scr (Same.sqlW h e)
  | _, _, p, .exc e r => .exc (ExD.weak h e) (RpL.weak h p r)
  | _, _, p, .clo _ _ _ _ => by cases p
  | _, _, _, .cel e => .cel (h _ _ e (.inl fun φ z => by cases z))
theorem RpL.weak {K : PySem.W.Frag} {G G' : Hp} (h : ∀ a o, G a = some o → Pln o → G' a = some o) : ∀ {vs : List V} {ds : List D}, nocL ds = true → RpL K G vs ds → RpL K G' vs ds
  | _, _, _, .nil => .nil
  | _, _, p, .cons a r => by
    unfold nocL at p
    rw [Bool.and_eq_true] at p
    exact .cons (Rp.weak h p.1 a) (RpL.weak h p.2 r)
end
theorem RpO.weak {K : PySem.W.Frag} {G G' : Hp} (h : ∀ a o, G a = some o → Pln o → G' a = some o) : ∀ {vs : List (Option V)} {ds : List (Option D)}, nocO ds = true → RpO K G vs ds → RpO K G' vs ds
  | _, _, _, .nil => .nil
  | _, _, p, .no r => .no (RpO.weak h p r)
  | _, _, p, .yes a r => by
    unfold nocO at p
    rw [Bool.and_eq_true] at p
    exact .yes (Rp.weak h p.1 a) (RpO.weak h p.2 r)
theorem CelOk.weak {G H G' H' : Hp} {st : List Cell} (x : CelOk G H st) (h : ∀ a o, G a = some o → Pln o → G' a = some o) (gi : ∀ a k, G' a = some (ghost k) → G a = some (ghost k)) (ec : ∀ a k, G a = some (ghost k) → H' a = H a) : CelOk G' H' st := by
  refine ⟨fun k c e => ?_, fun a b k p q => x.one a b k (gi _ _ p) (gi _ _ q), fun a k p => x.lt a k (gi _ _ p)⟩
  obtain ⟨a, g, y⟩ := x.at_ k c e
  refine ⟨a, h _ _ g (.inl fun φ z => by cases z), ?_⟩
  have hh := ec a k g
  cases c with
  | lst xs => obtain ⟨K, vs, k1, nc, p, r⟩ := y; exact ⟨K, vs, k1, nc, by rw [hh]; exact p, RpL.weak h nc r⟩
  | dK ks xs => obtain ⟨K, vs, k1, nc, p, l, r⟩ := y; exact ⟨K, vs, k1, nc, by rw [hh]; exact p, l, RpL.weak h nc r⟩
  | dT ks xs => obtain ⟨K, vs, k1, nc, p, l, r⟩ := y; exact ⟨K, vs, k1, nc, by rw [hh]; exact p, l, RpL.weak h nc r⟩
  | obj c xs => obtain ⟨K, C, dx, vs, k1, nc, n, p, d, r⟩ := y; exact ⟨K, C, dx, vs, k1, nc, n, by rw [hh]; exact p, h _ _ d (.inl fun φ z => by cases z), RpO.weak h nc r⟩
theorem BagOk.sub {G H G' H' : Hp} {b : Bs} (ob : BagOk G H b) (g0 : ∀ a, b.hit a → G' a = none) (g1 : ∀ a vs, G a = some (.lst vs) → G' a = some (.lst vs)) (h1 : ∀ a o, H a = some o → (∀ φ, o ≠ .ext φ) → H' a = some o)
    (h2 : ∀ c q, H c = some (LamX.CodeO c q) → H' c = some (LamX.CodeO c q)) (gi : ∀ a k, G' a = some (ghost k) → G a = some (ghost k)) (cs : ∀ g, b = some g → CelOk G' H' g.st) : BagOk G' H' b := by
  refine ⟨?_, fun p hp => ⟨g0 _ (.inr ⟨p.2, hp⟩), ?_⟩⟩
  · have o1 := ob.1
    cases b with
    | none => exact fun a k z => o1 a k (gi a k z)
    | some g =>
      obtain ⟨k1, k2, k3, _⟩ := o1
      exact ⟨g0 _ (.inl rfl), h1 _ _ k2 (fun φ z => by cases z), g1 _ _ k3, cs g rfl⟩
  · obtain ⟨_, ps, z1, z2, z3⟩ := ob.2 p hp
    refine ⟨ps, h1 _ _ z1 (fun φ z => by cases z), z2, fun pos cv hc => ?_⟩
    obtain ⟨c, e1, e2⟩ := z3 pos cv hc
    exact ⟨c, e1, h2 _ _ e2⟩
theorem BagOk.hitX {G H : Hp} {b : Bs} {a : Addr} {φ : Heap → Prop} (ob : BagOk G H b) (h : H a = some (.ext φ)) : ¬ b.hit a := fun z => by
  rcases z with z | ⟨q, z⟩
  · cases b with
    | none => cases z
    | some g =>
      cases z
      rw [ob.1.2.1] at h
      cases h
  · obtain ⟨_, ps, e, _⟩ := ob.2 _ z
    have e : H a = some (.tbl ps) := e
    rw [h] at e
    cases e
inductive RpA (K : PySem.W.Frag) (G H : Hp) (l : LamI) (cl : List (Str × Addr)) (cs : List D) : List V → List D → Prop
  | nil : RpA K G H l cl cs [] []
  | cons {v : V} {vs : List V} {d : D} {ds : List D} : Rp K G v d → RpA K G H l cl cs vs ds → RpA K G H l cl cs (v :: vs) (d :: ds)
  | lam {f c : Addr} {vs : List V} {ds : List D} : G f = some (FunX f l cl c) → H c = some (LamX.CodeO c l.qual) → RpA K G H l cl cs vs ds → RpA K G H l cl cs (.ref f :: vs) (.clo l cs :: ds)
section
variable {X : Cx} {l : LamI} {cl : List (Str × Addr)} {is : List Nat} {e : Expr} {es : List Expr} {f : Env → M D} {fa : Env → M (List D)}
end
end DL
set_option Elab.async false
set_option maxRecDepth 100000
set_option autoImplicit false
set_option linter.unusedVariables false
set_option maxHeartbeats 4000000
namespace DL
open PySem L2 PySem.Spec PyProof.Rows
variable [TAB : TabList]
variable [EFF : Eff]
set_option linter.unusedSectionVars false
def lamC (prog : Program) (w : World) (K : PySem.W.Frag) (mg : Str → Option Value) (base : Heap) (A : Around) (outer : List PySem.Env) (s : Shared) (H : Hp) (l : LamI) (N : List Str) (f c : Addr) (cl : List (Str × Addr)) : Cx where
  prog := prog
  w := w
  K := K
  mg := mg
  base := base
  A := A.deeper (PySem.W.envX l.qual l.scope s.heap.objs.size f (.ref c) cl)
  N := N
  s_0 := s
  H_0 := H
  env := PySem.W.envX l.qual l.scope s.heap.objs.size f (.ref c) cl
  outer := outer
  stack := PySem.W.envX l.qual l.scope s.heap.objs.size f (.ref c) cl :: outer
  ex := []
  fn := fun _ => false
  calm := true
  pn := []
  xe := fun e s1 => wpAny (model prog w) (A.deeper (PySem.W.envX l.qual l.scope s.heap.objs.size f (.ref c) cl)) (leaving (PySem.W.envX l.qual l.scope s.heap.objs.size f (.ref c) cl) e) (fun _ _ => False) (fun _ _ => False) s1
structure LamOk (P : Program) (w : World) (K : PySem.W.Frag) (mg : Str → Option Value) (base : Heap) (k : Nat) (l : LamI) (x : Str) (Fl : Env → M D) : Prop where
  kind : l.scope.kind = .function
  co : l.scope.isCoroutine = false
  gen : l.scope.isGenerator = false
  nm : ∀ y ∈ l.scope.names, y.2 ≠ .cell ∧ (y.2 = .free → y.1 ∈ l.frees) ∧ (y.2 = .local → y.1 = x)
  par : l.scope.names.lookup x = some .local
  fre : ∀ y ∈ l.frees, l.scope.names.lookup y = some .free
  bind : ∀ (cl : List (Str × Addr)) (pm c ctv u : Value), bindArgs (PySem.W.kla_fn "<lambda>" l.qual l.params l.body l.scope cl pm c ctv) ⟨[u], []⟩ = pure [(x, u)]
  body : ∀ (A : Around) (outer : List PySem.Env) (s : Shared) (H : Hp) (f c : Addr) (cl : List (Str × Addr)), Room k (A.deeper (PySem.W.envX l.qual l.scope s.heap.objs.size f (.ref c) cl)) → DE (lamC P w K mg base A outer s H l (x :: l.frees) f c cl) l.body Fl
theorem CellsAt.get {G : Hp} {cl : List (Str × Addr)} : ∀ {fr : List Str} {vs : List V} {j : Nat} {y : Str} {v : V}, CellsAt G cl fr vs → fr[j]? = some y → vs[j]? = some v → ∃ c o u, cl.lookup y = some c ∧ G c = some (CellX c o) ∧ o.data = .cell (some u) ∧ RelV v u
  | [], _, _, _, _, _, h, _ => by simp at h
  | _ :: _, [], _, _, _, h, _, _ => h.elim
  | y0 :: fr, v0 :: vs, 0, y, v, h, h1, h2 => by
    cases h1
    cases h2
    exact h.1
  | y0 :: fr, v0 :: vs, j + 1, y, v, h, h1, h2 => CellsAt.get (j := j) h.2 (by simpa using h1) (by simpa using h2)
theorem CellsAt.len {G : Hp} {cl : List (Str × Addr)} : ∀ {fr : List Str} {vs : List V}, CellsAt G cl fr vs → vs.length = fr.length
  | [], [], _ => rfl
  | [], _ :: _, h => h.elim
  | _ :: _, [], h => h.elim
  | _ :: fr, _ :: vs, h => by simp [CellsAt.len (fr := fr) h.2]
theorem CellsAt.mem {G : Hp} {cl : List (Str × Addr)} : ∀ {fr : List Str} {vs : List V} {y : Str}, CellsAt G cl fr vs → y ∈ fr → ∃ c o u, cl.lookup y = some c ∧ G c = some (CellX c o) ∧ o.data = .cell (some u)
  | [], _, _, _, h => nomatch h
  | _ :: _, [], _, h, _ => h.elim
  | y0 :: fr, v0 :: vs, y, h, hm => by
    rcases List.mem_cons.mp hm with rfl | hm
    · obtain ⟨c, o, u, h1, h2, h3, _⟩ := h.1
      exact ⟨c, o, u, h1, h2, h3⟩
    · exact CellsAt.mem h.2 hm
section
variable {P : Program} {w : World} {K : PySem.W.Frag} {mg : Str → Option Value} {base : Heap} {k : Nat} {l : LamI} {x : Str} {Fl : Env → M D} {A : Around} {outer : List PySem.Env} {s : Shared} {H : Hp} {f c : Addr} {cl : List (Str × Addr)} {vsc : List V}
end
section
variable {X : Cx} {k : Nat} {LT : List (LamI × (Env → M D))} {f : Env → M D} {e : Expr} {x : Str} {p pos : Pos}
end
end DL
set_option Elab.async false
set_option maxRecDepth 100000
set_option autoImplicit false
set_option linter.unusedVariables false
set_option maxHeartbeats 4000000
namespace DL
open PySem L2 PySem.Spec PyProof.Rows
variable [TAB : TabList]
set_option linter.unusedSectionVars false
section
variable {P : Program} {w : World} {K : PySem.W.Frag} {mg : Str → Option Value} {base : Heap} {x qual : Str} {st : Stmt} {f c0 : Addr} {fd : FuncData} {N ps : List Str} {k : Nat} {Fs : Env2 → M Out} {l : LamI} {is : List Nat}
end
end DL
set_option Elab.async false
set_option maxRecDepth 100000
set_option autoImplicit false
set_option linter.unusedVariables false
set_option maxHeartbeats 4000000
namespace DL
open PySem L2 PySem.Spec PyProof.Rows
section
variable {P : Program} {w : World} {K : PySem.W.Frag} {mg : Str → Option Value} {base : Heap} {k j : Nat} {l : LamI} {x : Str} {F : Env → M D} [TAB : TabList]
theorem LamOk.mono (h : LamOk P w K mg base j l x F) (hk : j ≤ k) : LamOk P w K mg base k l x F := ⟨h.kind, h.co, h.gen, h.nm, h.par, h.fre, h.bind, fun A outer s H f c cl hr => h.body A outer s H f c cl (hr.mono hk)⟩
end
theorem all_nil {α : Type} {φ : α → Prop} : ∀ c ∈ ([] : List α), φ c := fun c hc => nomatch hc
theorem all_cons {α : Type} {φ : α → Prop} {a : α} {l : List α} (h : φ a) (r : ∀ c ∈ l, φ c) : ∀ c ∈ a :: l, φ c := fun c hc => by
  rcases List.mem_cons.mp hc with rfl | hc
  · exact h
  · exact r c hc
end DL
set_option Elab.async false
set_option maxRecDepth 100000
set_option autoImplicit false
set_option linter.unusedVariables false
set_option maxHeartbeats 4000000
namespace DL
open PySem L2 PySem.Spec PyProof.Rows
variable [TAB : TabList]
variable [EFF : Eff]
set_option linter.unusedSectionVars false
section
variable {X : Cx} {k : Nat} {f : Addr} {fd : FuncData} {ps : List Str} {x : Str} {p pos : Pos} {e : Expr} {es : List Expr} {n : Nat} {Fn : List D → M (List D)} {fa : Env → M (List D)}
end
section
variable {X : Cx} {pos : Pos}
end
end DL
set_option Elab.async false
set_option maxRecDepth 100000
set_option autoImplicit false
set_option linter.unusedVariables false
set_option maxHeartbeats 4000000
namespace DL
open PySem L2 PySem.Spec PyProof.Rows
variable [TAB : TabList]
variable [EFF : Eff]
set_option linter.unusedSectionVars false
end DL
set_option Elab.async false
set_option maxRecDepth 100000
set_option autoImplicit false
set_option linter.unusedVariables false
set_option maxHeartbeats 4000000
namespace DL
section
open PySem PySem.Calls PyProof.Rows PySem.W
variable {prog : Program} {w : World} {A : Around} {E : Value → Shared → Prop} {s : Shared} {a kS : Addr} {b : Bool} {vs : List Value} {keys : Array Value} {e e1 : Nat} {P : PySem.Fin → Shared → Prop} {kz : List PyData}
def KB (a c : Addr) (h h' : Heap) : Prop := ∀ b o, b ≠ a → b ≠ c → h.get? b = some o → h'.get? b = some o
theorem KB.same {a c d : Addr} {h h' h'' : Heap} (k : KB a c h h') (hs : Heap.SameBut d h' h'') (hd : d = a ∨ d = c) : KB a c h h'' := fun b o hb hc e => by
  have hbd : b ≠ d := by
    rintro rfl
    rcases hd with rfl | rfl
    · exact hb rfl
    · exact hc rfl
  exact (hs.2 b hbd).trans (k b o hb hc e)
end
section
open PySem L2 PySem.Spec PyProof.Rows PySem.W
variable [TAB : TabList]
variable [EFF : Eff]
set_option linter.unusedSectionVars false
section
variable {X : Cx} {pins : List (Addr × Obj)} {σ : L2.St} {H : Hp} {s : Shared}
def Lam0 (H : Hp) (l : LamI) (f c : Addr) : Prop := H f = some (FunX f l [] c) ∧ H c = some (LamX.CodeO c l.qual) ∧ l.frees = []
theorem Lam0.next {G G' H' : Hp} {b b' : Bs} {l : LamI} {f c : Addr} (h : Lam0 H l f c) (ob : BagOk G H b) (n : Nxt G H b G' H' b') : Lam0 H' l f c := by
  obtain ⟨h1, h2, h3⟩ := h
  have h1' : H f = some (.ext _) := h1
  have h2' : H c = some (.ext _) := h2
  exact ⟨n.keep _ _ h1 (ob.hitX h1'), n.keep _ _ h2 (ob.hitX h2'), h3⟩
end
section
variable {X : Cx}
end
end
end DL
set_option Elab.async false
set_option maxRecDepth 100000
set_option autoImplicit false
set_option linter.unusedVariables false
set_option maxHeartbeats 4000000
namespace DL
open PySem L2 PySem.Spec PyProof.Rows PySem.W
variable [TAB : TabList]
variable [EFF : Eff]
set_option linter.unusedSectionVars false
section
variable {X : Cx} {a b : Expr} {f g : DL.Env → M D} {pos : Pos}
end
end DL
set_option Elab.async false
set_option maxRecDepth 100000
set_option autoImplicit false
set_option linter.unusedVariables false
set_option maxHeartbeats 4000000
namespace DL
open PySem L2 PySem.Spec PyProof.Rows
variable [TAB : TabList]
variable [EFF : Eff]
set_option linter.unusedSectionVars false
section
variable {X : Cx} {pins : List (Addr × Obj)} {σ : L2.St} {H : Hp} {s : Shared}
end
section
variable {X : Cx} {a b : Expr} {f g : DL.Env → M D} {pos : Pos}
end
section
variable {X : Cx} {pins : List (Addr × Obj)} {σ : L2.St} {H G : Hp} {s : Shared}
end
section
variable {X : Cx} {pos : Pos}
end
end DL
set_option Elab.async false
set_option maxRecDepth 100000
set_option autoImplicit false
set_option linter.unusedVariables false
set_option maxHeartbeats 4000000
namespace DL
open PySem L2 PySem.Spec PyProof.Rows
variable [TAB : TabList]
variable [EFF : Eff]
set_option linter.unusedSectionVars false
section
variable {X : Cx} {pos : Pos}
end
end DL
set_option Elab.async false
set_option maxRecDepth 100000
set_option autoImplicit false
set_option linter.unusedVariables false
set_option maxHeartbeats 4000000
namespace DL
open PySem L2 PySem.Spec PyProof.Rows
variable [TAB : TabList]
variable [EFF : Eff]
set_option linter.unusedSectionVars false
abbrev KVs := List (L2.Key × V)
structure LD (d : Addr) (kvs : KVs) (G G' : Hp) : Prop where
  ne : ∀ a o, a ≠ d → G a = some o → G' a = some o
  g : Rd G d (.dK kvs)
  g' : Rd G' d (.dK kvs)
def Lkd (o : HO) : Prop := (∃ k, o = .dK k) ∨ ∃ od k, o = .frz od (.dK k)
theorem LD.at_ {d : Addr} {kvs : KVs} {G G' : Hp} (l : LD d kvs G G') {a : Addr} {o : HO} (h : G a = some o) (n : ¬ Lkd o) : G' a = some o := by
  by_cases e : a = d
  · subst e
    rcases l.g with z | ⟨od, z⟩
    · rw [h] at z; cases z; exact absurd (.inl ⟨_, rfl⟩) n
    · rw [h] at z; cases z; exact absurd (.inr ⟨_, _, rfl⟩) n
  · exact l.ne a o e h
theorem rd_inj {G : Hp} {a : Addr} {k k' : KVs} (h : Rd G a (.dK k)) (h' : Rd G a (.dK k')) : k = k' := by
  rcases h with h | ⟨o, h⟩ <;> rcases h' with h' | ⟨o', h'⟩ <;> (rw [h] at h'; cases h') <;> rfl
theorem LD.rd {d : Addr} {kvs : KVs} {G G' : Hp} (l : LD d kvs G G') {a : Addr} {k : KVs} (h : Rd G a (.dK k)) : Rd G' a (.dK k) := by
  by_cases e : a = d
  · subst e
    rw [rd_inj h l.g]
    exact l.g'
  · rcases h with h | ⟨o, h⟩
    · exact .inl (l.ne _ _ e h)
    · exact .inr ⟨o, l.ne _ _ e h⟩
theorem nl_ext {φ : Heap → Prop} : ¬ Lkd (.ext φ) := by
  rintro (⟨k, z⟩ | ⟨od, k, z⟩) <;> cases z
theorem LD.sqt {K : PySem.W.Frag} {d : Addr} {kvs : KVs} {G G' : Hp} (l : LD d kvs G G') {a : Addr} {xs : List V} (h : SqT K G a xs) : SqT K G' a xs := by
  rcases h with (h | ⟨o, h⟩) | h
  · exact .inl (.inl (l.at_ h (by rintro (⟨k, z⟩ | ⟨od, k, z⟩) <;> cases z)))
  · exact .inl (.inr ⟨o, l.at_ h (by rintro (⟨k, z⟩ | ⟨od, k, z⟩) <;> cases z)⟩)
  · exact .inr h
theorem LD.sql {K : PySem.W.Frag} {d : Addr} {kvs : KVs} {G G' : Hp} (l : LD d kvs G G') {a : Addr} {xs : List V} (h : SqL K G a xs) : SqL K G' a xs := by
  rcases h with (h | ⟨o, h⟩) | h
  · exact .inl (.inl (l.at_ h (by rintro (⟨k, z⟩ | ⟨od, k, z⟩) <;> cases z)))
  · exact .inl (.inr ⟨o, l.at_ h (by rintro (⟨k, z⟩ | ⟨od, k, z⟩) <;> cases z)⟩)
  · exact .inr h
theorem LD.dT {d : Addr} {kvs : KVs} {G G' : Hp} (l : LD d kvs G G') {a : Addr} {k : List (List L2.Key × V)} (h : Rd G a (.dT k)) : Rd G' a (.dT k) := by
  rcases h with h | ⟨o, h⟩
  · exact .inl (l.at_ h (by rintro (⟨k, z⟩ | ⟨od, k, z⟩) <;> cases z))
  · exact .inr ⟨o, l.at_ h (by rintro (⟨k, z⟩ | ⟨od, k, z⟩) <;> cases z)⟩
theorem LD.cells {d : Addr} {kvs : KVs} {G G' : Hp} (l : LD d kvs G G') {cl : List (Str × Addr)} : ∀ {ys : List Str} {vs : List V}, CellsAt G cl ys vs → CellsAt G' cl ys vs
  | [], [], _ => trivial
  | _ :: _, _ :: _, ⟨⟨c, o, u, h1, h2, h3⟩, r⟩ => ⟨⟨c, o, u, h1, l.at_ h2 nl_ext, h3⟩, LD.cells l r⟩
  | [], _ :: _, h => h.elim
  | _ :: _, [], h => h.elim
theorem LD.exd {dd : Addr} {kvs : KVs} {G G' : Hp} (l : LD dd kvs G G') : ∀ {dx : Option Addr} {c : Nat} {vs : List V}, ExD G dx c vs → ExD G' dx c vs
  | some _, _, [_], h => l.at_ h (by rintro (⟨k, z⟩ | ⟨od, k, z⟩) <;> cases z)
  | none, _, [], _ => trivial
  | some _, _, [], h => h.elim
  | some _, _, _ :: _ :: _, h => h.elim
  | none, _, _ :: _, h => h.elim
theorem nl_slo {a C dx : Addr} {vs : List (Option V)} : ¬ Lkd (SlX.SlO a C dx vs) := by
  unfold SlX.SlO
  exact nl_ext
mutual
theorem Rp.ld {K : PySem.W.Frag} {dd : Addr} {kvs : KVs} {G G' : Hp} (e : LD dd kvs G G') : ∀ {v : V} {d : D}, Rp K G v d → Rp K G' v d
  | _, _, .non => .non
  | _, _, .bl b => .bl b
  | _, _, .int i => .int i
  | _, _, .str x => .str x
  | _, _, .lst h r => .lst (e.at_ h (by rintro (⟨k, z⟩ | ⟨od, k, z⟩) <;> cases z)) (RpL.ld e r)
  | _, _, .tup h r => .tup (e.sqt h) (RpL.ld e r)
  | _, _, .dct h l r => .dct (e.rd h) l (RpL.ld e r)
  | _, _, .dcT h l r => .dcT (e.dT h) l (RpL.ld e r)
  | _, _, .obj h0 h h2 r => .obj h0 (e.at_ h nl_slo) (e.at_ h2 (by rintro (⟨k, z⟩ | ⟨od, k, z⟩) <;> cases z)) (RpL.ld e r)
  | _, _, .bag p => .bag p
  | _, _, .scr h => .scr (e.sql h)
  | _, _, .exc h r => .exc (e.exd h) (RpL.ld e r)
  | _, _, .clo h h2 h3 r => .clo (e.at_ h nl_ext) (e.at_ h2 nl_ext) ⟨h3.1, e.cells h3.2⟩ (RpL.ld e r)
  | _, _, .cel h => .cel (e.at_ h (by rintro (⟨k, z⟩ | ⟨od, k, z⟩) <;> cases z))
theorem RpL.ld {K : PySem.W.Frag} {dd : Addr} {kvs : KVs} {G G' : Hp} (e : LD dd kvs G G') : ∀ {vs : List V} {ds : List D}, RpL K G vs ds → RpL K G' vs ds
  | _, _, .nil => .nil
  | _, _, .cons a b => .cons (Rp.ld e a) (RpL.ld e b)
end
theorem RpO.ld {K : PySem.W.Frag} {dd : Addr} {kvs : KVs} {G G' : Hp} (e : LD dd kvs G G') : ∀ {vs : List (Option V)} {ds : List (Option D)}, RpO K G vs ds → RpO K G' vs ds
  | _, _, .nil => .nil
  | _, _, .no r => .no (RpO.ld e r)
  | _, _, .yes a r => .yes (a.ld e) (RpO.ld e r)
theorem LD.gi {dd : Addr} {kvs : KVs} {G G' : Hp} (e : LD dd kvs G G') (back : ∀ a o, a ≠ dd → G' a = some o → G a = some o) (a : Addr) (k : Nat) (h : G' a = some (ghost k)) : G a = some (ghost k) := by
  by_cases z : a = dd
  · subst z
    rcases e.g' with y | ⟨od, y⟩ <;> rw [y] at h <;> cases h
  · exact back a _ z h
theorem CelOk.ld {dd : Addr} {kvs : KVs} {G G' H H' : Hp} {st : List Cell} (e : LD dd kvs G G') (x : CelOk G H st) (back : ∀ a o, a ≠ dd → G' a = some o → G a = some o) (ec : ∀ a, a ≠ dd → H' a = H a) : CelOk G' H' st := by
  have gi := e.gi back
  refine ⟨fun k c i => ?_, fun a b k p q => x.one a b k (gi _ _ p) (gi _ _ q), fun a k p => x.lt a k (gi _ _ p)⟩
  obtain ⟨a, g, y⟩ := x.at_ k c i
  have gn : ∀ {k : Nat}, ¬ Lkd (ghost k) := by rintro k (⟨k, z⟩ | ⟨od, k, z⟩) <;> cases z
  refine ⟨a, e.at_ g gn, ?_⟩
  have hh : H' a = H a := ec a fun z => by
    subst z
    rcases e.g with y | ⟨od, y⟩ <;> rw [y] at g <;> cases g
  cases c with
  | lst xs => obtain ⟨K, vs, k1, nc, p, r⟩ := y; exact ⟨K, vs, k1, nc, by rw [hh]; exact p, r.ld e⟩
  | dK ks xs => obtain ⟨K, vs, k1, nc, p, l, r⟩ := y; exact ⟨K, vs, k1, nc, by rw [hh]; exact p, l, r.ld e⟩
  | dT ks xs => obtain ⟨K, vs, k1, nc, p, l, r⟩ := y; exact ⟨K, vs, k1, nc, by rw [hh]; exact p, l, r.ld e⟩
  | obj c xs => obtain ⟨K, C, dx, vs, k1, nc, n, p, d, r⟩ := y; exact ⟨K, C, dx, vs, k1, nc, n, by rw [hh]; exact p, e.at_ d (by rintro (⟨k, z⟩ | ⟨od, k, z⟩) <;> cases z), r.ld e⟩
theorem RS.ld {K : PySem.W.Frag} {dd : Addr} {kvs : KVs} {G G' : Hp} {σ : L2.St} {ρ : DL.Env} (e : LD dd kvs G G') (h : RS K G σ ρ) : RS K G' σ ρ := ⟨h.len, fun i d q => by
  obtain ⟨v, h1, h2⟩ := h.get i d q
  exact ⟨v, h1, h2.ld e⟩⟩
mutual
theorem Ow.ld {K : PySem.W.Frag} {dd : Addr} {kvs : KVs} {G G' H H' : Hp} (e : LD dd kvs G G') : ∀ {v : V} {o : O} {fp : List Addr}, (∀ a ∈ fp, H' a = H a) → Ow K G H v o fp → Ow K G' H' v o fp
  | _, _, _, _, .v r => .v (r.ld e)
  | _, _, _, h, .l hp r => .l (by rw [h _ List.mem_cons_self]; exact hp) (OwL.ld e (fun a ha => h a (List.mem_cons_of_mem _ ha)) r)
  | _, _, _, h, .k hp hl r => .k (by rw [h _ List.mem_cons_self]; exact hp) hl (OwL.ld e (fun a ha => h a (List.mem_cons_of_mem _ ha)) r)
  | _, _, _, h, .t hp hl r => .t (by rw [h _ List.mem_cons_self]; exact hp) hl (OwL.ld e (fun a ha => h a (List.mem_cons_of_mem _ ha)) r)
  | _, _, _, h, .u hp r => .u (e.sqt hp) (OwL.ld e h r)
theorem OwL.ld {K : PySem.W.Frag} {dd : Addr} {kvs : KVs} {G G' H H' : Hp} (e : LD dd kvs G G') : ∀ {vs : List V} {os : List O} {fp : List Addr}, (∀ a ∈ fp, H' a = H a) → OwL K G H vs os fp → OwL K G' H' vs os fp
  | _, _, _, _, .nil => .nil
  | _, _, _, h, .cons a b => .cons (Ow.ld e (fun z hz => h z (List.mem_append_left _ hz)) a) (OwL.ld e (fun z hz => h z (List.mem_append_right _ hz)) b)
end
theorem ld_unl {G : Hp} {d : Addr} {kvs : KVs} {od : Obj} (h : G d = some (.frz od (.dK kvs))) : LD d kvs G (upd G d (.dK kvs)) := ⟨fun a o n e => by rw [upd_ne n]; exact e, .inr ⟨od, h⟩, .inl upd_same⟩
theorem same_upd {G H : Hp} {d : Addr} {o : HO} (f : SameF G H) : SameF (upd G d o) (upd H d o) := f.newF
theorem bag_upd {G H : Hp} {b : Bs} {d : Addr} {o u : HO} (ob : BagOk G H b) (h : G d = some u) (hu : ∀ xs, u ≠ .lst xs) (nc : ∀ c q, H d ≠ some (LamX.CodeO c q)) {kvs : KVs} (ld : LD d kvs G (upd G d o)) : BagOk (upd G d o) (upd H d o) b := by
  have nh := bag_not ob h
  have back : ∀ a w, a ≠ d → upd G d o a = some w → G a = some w := fun a w n z => by rwa [upd_ne n] at z
  refine ⟨?_, fun p hp => ?_⟩
  · have o1 := ob.1
    cases b with
    | none => exact fun a k z => o1 a k (ld.gi back a k z)
    | some g =>
      obtain ⟨b1, b2, b3, b4⟩ := o1
      have n1 : g.p ≠ d := fun z => nh (.inl (by rw [← z]; rfl))
      by_cases n2 : g.q = d
      · rw [n2, h] at b3
        exact absurd (Option.some.inj b3) (hu _)
      · exact ⟨by rw [upd_ne n1]; exact b1, by rw [upd_ne n1]; exact b2, by rw [upd_ne n2]; exact b3, CelOk.ld ld b4 back fun a n => upd_ne n⟩
  · obtain ⟨k1, k2⟩ := ob.2 p hp
    have n1 : p.1 ≠ d := fun z => by rw [z, h] at k1; cases k1
    exact ⟨by rw [upd_ne n1]; exact k1, TabS.mut k2 n1 nc⟩
section
variable {K : PySem.W.Frag} {E : En} {σ σ' : L2.St} {ρ ρ' : Env2} {G H G' H' : Hp} {b b' : Bs} {d : Addr} {kvs : KVs} {od : Obj}
theorem Nxt.unl (f : SameF G H) (hd : G d = some (.dK kvs)) (J : Nxt (upd G d (.frz od (.dK kvs))) (upd H d (.frz od (.dK kvs))) b G' H' b') : Nxt G H b (upd G' d (.dK kvs)) (upd H' d (.dK kvs)) b' := by
  have gd : G' d = some (.frz od (.dK kvs)) := J.gg d _ upd_same
  have hd' : H' d = some (.frz od (.dK kvs)) := J.fz _ _ gd
  refine .mk' (fun a o hg => ?_) (same_upd J.fz) (fun a o h nb => ?_) (fun a o h1 h2 => ?_) (bag_upd J.bag gd (fun _ z => nomatch z) (nc_of hd') (ld_unl gd)) J.like
  · by_cases e : a = d
    · subst e
      rw [hd] at hg
      cases hg
      exact upd_same
    · rw [upd_ne e]
      exact J.gg a o (by rw [upd_ne e]; exact hg)
  · by_cases e : a = d
    · have hh : H d = some (.dK kvs) := f _ _ hd
      rw [e, hh] at h
      cases h
      rw [e]
      exact upd_same
    · rw [upd_ne e]
      exact J.keep a o (by rw [upd_ne e]; exact h) nb
  · have e : a ≠ d := fun z => by
      rw [z, hd] at h2
      cases h2
    rw [upd_ne e]
    exact J.new a o (by rw [upd_ne e]; exact h1) (by rw [upd_ne e]; exact h2)
end
def NF (X : Cx) (d : Addr) : Prop := ∀ o' u', X.H_0 d ≠ some (.frz o' u')
def UnlTo (X : Cx) (H : Hp) (P : Hp → Prop) : Prop := P H ∨ ∃ d od u, H d = some (.frz od u) ∧ NF X d ∧ P (upd H d u)
section
variable {X : Cx}
end
section
variable {X : Cx} {tg : Expr} {p pos : Pos}
end
def Ends.unl (X : Cx) (D : Ends) : Ends := ⟨fun σ' H' => UnlTo X H' (D.nx σ'), fun v H' => UnlTo X H' (D.rt v), fun σ' H' => UnlTo X H' (D.bk σ'), fun σ' H' => UnlTo X H' (D.ct σ')⟩
section
variable {X : Cx} {pos : Pos}
end
end DL
set_option Elab.async false
set_option maxRecDepth 100000
set_option autoImplicit false
set_option linter.unusedVariables false
set_option maxHeartbeats 4000000
namespace DL
open PySem L2 PySem.Spec PyProof.Rows
variable [TAB : TabList]
variable [EFF : Eff]
set_option linter.unusedSectionVars false
def updK {α : Type} : List L2.Key → List α → List L2.Key → List α → List L2.Key × List α
  | ks, xs, k :: ls, y :: ys => updK (setKs ks k) (setVs ks xs k y) ls ys
  | ks, xs, _, _ => (ks, xs)
theorem RpL.updK {K : PySem.W.Frag} {G : Hp} : ∀ {ls : List L2.Key} {ys : List V} {es : List D}, RpL K G ys es → ∀ {ks : List L2.Key} {xs : List V} {ds : List D}, RpL K G xs ds → RpL K G (DL.updK ks xs ls ys).2 (DL.updK ks ds ls es).2
  | k :: ls, _, _, .cons a b, ks, xs, ds, r => RpL.updK b (RpL.setVs a r)
  | [], _, _, _, ks, xs, ds, r => r
  | _ :: _, _, _, .nil, ks, xs, ds, r => r
section
variable {X : Cx} {pos : Pos}
end
section
variable {X : Cx} {pos : Pos}
theorem RpL.dropLast {K : PySem.W.Frag} {G : Hp} {vs : List V} {ds : List D} (r : RpL K G vs ds) : RpL K G vs.dropLast ds.dropLast := by
  rw [List.dropLast_eq_take, List.dropLast_eq_take, r.length]
  exact r.take _
end
section
variable {X : Cx} {tg : Expr} {p pos : Pos}
end
end DL
set_option Elab.async false
set_option maxRecDepth 100000
set_option autoImplicit false
set_option linter.unusedVariables false
set_option maxHeartbeats 4000000
namespace DL
open PySem L2 PySem.Spec PyProof.Rows
variable [TAB : TabList]
variable [EFF : Eff]
set_option linter.unusedSectionVars false
section
variable {X : Cx} {l : LamI} {cl : List (Str × Addr)} {is : List Nat} {e : Expr} {es : List Expr} {f : Env → M D} {fa : Env → M (List D)}
end
section
variable {X : Cx} {pos : Pos}
end
end DL
set_option Elab.async false
set_option maxRecDepth 100000
set_option autoImplicit false
set_option linter.unusedVariables false
set_option maxHeartbeats 4000000
namespace DL
open PySem L2 PySem.Spec PyProof.Rows
variable [TAB : TabList]
set_option linter.unusedSectionVars false
theorem slo_nc {a C dx : Addr} {vs : List (Option V)} {c : Addr} {q : Str} : SlX.SlO a C dx vs ≠ LamX.CodeO c q := by
  unfold SlX.SlO
  refine ext_ne ?_
  rintro hp ⟨sl, h, _⟩
  exact ⟨a, _, h, fun us z => by cases z⟩
def frE (C x dx : Addr) (H : Hp) : Hp := upd (upd H dx (.own x)) x (.ins C dx [])
structure TW (X : Cx) (E : En) (C x dx : Addr) (σ : L2.St) (δ : DL.Env) (G H : Hp) (b : Bs) (vs : List (Option V)) : Prop where
  rs : RS X.K G σ δ
  me : σ[0]? = some (some (.ref x))
  gx : G x = none
  gd : G dx = none
  ox : H x = some (SlX.SlO x C dx vs)
  od : H dx = some (.xd [])
  ne : dx ≠ x
  hx : ¬ b.hit x
  hd : ¬ b.hit dx
  ex : E.H x = some (.ins C dx [])
  ed : E.H dx = some (.own x)
  nx : Nxt E.G E.H E.b G (frE C x dx H) b
section
variable {X : Cx} {E : En} {C x dx : Addr} {σ : L2.St} {δ : DL.Env} {G H G1 H1 : Hp} {b b1 : Bs} {vs : List (Option V)}
theorem TW.fz (T : TW X E C x dx σ δ G H b vs) : SameF G H := fun a o h => by
  have h2 := T.nx.fz a o h
  unfold frE at h2
  rw [upd_ne (fun z => by rw [z, T.gx] at h; cases h), upd_ne (fun z => by rw [z, T.gd] at h; cases h)] at h2
  exact h2
theorem TW.back (T : TW X E C x dx σ δ G H b vs) : upd (upd (frE C x dx H) dx (.xd [])) x (SlX.SlO x C dx vs) = H := by
  funext a
  unfold frE
  by_cases h1 : a = x
  · rw [h1, upd_same, T.ox]
  · rw [upd_ne h1]
    by_cases h2 : a = dx
    · rw [h2, upd_same, T.od]
    · rw [upd_ne h2, upd_ne h1, upd_ne h2]
theorem TW.bag (T : TW X E C x dx σ δ G H b vs) : BagOk G H b := by
  have h1 := T.nx.bag.mut (o := .xd []) T.hd (nc_of (u := .own x) (by unfold frE; rw [upd_ne T.ne, upd_same])) T.gd
  have h2 := h1.mut (o := SlX.SlO x C dx vs) T.hx (nc_of (u := .ins C dx []) (by rw [upd_ne (Ne.symm T.ne)]; unfold frE; rw [upd_same])) T.gx
  rw [T.back] at h2
  exact h2
theorem TW.ev (T : TW X E C x dx σ δ G H b vs) (n : Nxt G H b G1 H1 b1) : TW X E C x dx σ δ G1 H1 b1 vs := by
  have gx1 := n.new x _ T.ox T.gx
  have gd1 := n.new dx _ T.od T.gd
  have ox1 := n.keep x _ T.ox T.hx
  have od1 := n.keep dx _ T.od T.hd
  have hx1 : ¬ b1.hit x := by rw [← Bs.like_at n.like]; exact T.hx
  have hd1 : ¬ b1.hit dx := by rw [← Bs.like_at n.like]; exact T.hd
  refine ⟨T.rs.mono n.gg, T.me, gx1, gd1, ox1, od1, T.ne, hx1, hd1, T.ex, T.ed, .mk' (fun a o h => n.gg a o (T.nx.gg a o h)) (fun a o h => ?_) (fun a o h hb => ?_) (fun a o h hn => ?_) ?_ (Bs.like_trans T.nx.like n.like)⟩
  · unfold frE
    rw [upd_ne (fun z => by rw [z, gx1] at h; cases h), upd_ne (fun z => by rw [z, gd1] at h; cases h)]
    exact n.fz a o h
  · have k := T.nx.keep a o h hb
    unfold frE at k ⊢
    by_cases h1 : a = x
    · rw [h1, upd_same] at k ⊢
      exact k
    · rw [upd_ne h1] at k ⊢
      by_cases h2 : a = dx
      · rw [h2, upd_same] at k ⊢
        exact k
      · rw [upd_ne h2] at k ⊢
        exact n.keep a o k (by rw [← Bs.like_at T.nx.like]; exact hb)
  · have k := T.nx.new a o h hn
    by_cases h1 : a = x
    · rw [h1]; exact gx1
    · by_cases h2 : a = dx
      · rw [h2]; exact gd1
      · by_cases hb : E.b.hit a
        · exact n.bag.hitG (by rw [← Bs.like_at n.like, ← Bs.like_at T.nx.like]; exact hb)
        · have k2 := T.nx.keep a o h hb
          unfold frE at k2
          rw [upd_ne h1, upd_ne h2] at k2
          exact n.new a o k2 k
  · have k1 := n.bag.mut (o := .own x) hd1 (nc_of od1) gd1
    exact k1.mut (o := .ins C dx []) hx1 (fun c q z => by
      rw [upd_ne (Ne.symm T.ne), ox1] at z
      exact slo_nc (Option.some.inj z)) gx1
theorem TW.put (T : TW X E C x dx σ δ G H b vs) (vs' : List (Option V)) : TW X E C x dx σ δ G (SlX.slH H x C dx vs') b vs' := by
  have e : frE C x dx (SlX.slH H x C dx vs') = frE C x dx H := by
    funext a
    unfold frE SlX.slH
    by_cases h1 : a = x
    · rw [h1, upd_same, upd_same]
    · rw [upd_ne h1, upd_ne h1]
      by_cases h2 : a = dx
      · rw [h2, upd_same, upd_same]
      · rw [upd_ne h2, upd_ne h2, upd_ne h1, upd_ne h2]
  refine ⟨T.rs, T.me, T.gx, T.gd, ?_, ?_, T.ne, T.hx, T.hd, T.ex, T.ed, by rw [e]; exact T.nx⟩
  · unfold SlX.slH
    exact upd_same
  · unfold SlX.slH
    rw [upd_ne T.ne, upd_same]
theorem TW.set (T : TW X E C x dx σ δ G H b vs) {i : Nat} (hi : i ≠ 0) {v : V} {d : D} (r : Rp X.K G v d) : TW X E C x dx (σ.set i (some v)) (δ.set i (some d)) G H b vs :=
  ⟨T.rs.set r, by rw [List.getElem?_set_ne hi]; exact T.me, T.gx, T.gd, T.ox, T.od, T.ne, T.hx, T.hd, T.ex, T.ed, T.nx⟩
theorem TW.mut (T : TW X E C x dx σ δ G H b vs) {p : Addr} {o : HO} (h : E.H p = none) (gp : G p = none) (px : p ≠ x) (pd : p ≠ dx) (hb : ¬ b.hit p) (nc : ∀ c q, H p ≠ some (LamX.CodeO c q)) : TW X E C x dx σ δ G (upd H p o) b vs := by
  have e : frE C x dx (upd H p o) = upd (frE C x dx H) p o := by
    funext a
    unfold frE
    by_cases h0 : a = p
    · rw [h0, upd_ne px, upd_ne pd, upd_same, upd_same]
    · rw [upd_ne h0]
      by_cases h1 : a = x
      · rw [h1, upd_same, upd_same]
      · rw [upd_ne h1, upd_ne h1]
        by_cases h2 : a = dx
        · rw [h2, upd_same, upd_same]
        · rw [upd_ne h2, upd_ne h2, upd_ne h0]
  have nc2 : ∀ c q, frE C x dx H p ≠ some (LamX.CodeO c q) := fun c q => by
    unfold frE
    rw [upd_ne px, upd_ne pd]
    exact nc c q
  refine ⟨T.rs, T.me, T.gx, T.gd, by rw [upd_ne (Ne.symm px)]; exact T.ox, by rw [upd_ne (Ne.symm pd)]; exact T.od, T.ne, T.hx, T.hd, T.ex, T.ed, ?_⟩
  rw [e]
  refine .mk' T.nx.gg (fun a u k => ?_) (fun a u k z => ?_) T.nx.new (T.nx.bag.mut hb nc2 gp) T.nx.like
  · rw [upd_ne (ne_of_none k gp)]
    exact T.nx.fz a u k
  · rw [upd_ne (ne_of_none k h)]
    exact T.nx.keep a u k z
theorem TW.start {ρ : Env2} {ms : List Nat} (I : SI X.K E σ ρ G H b) (n : Nxt (I.gp ms) H b G1 H1 b1) (ex : E.H x = some (.ins C dx [])) (ed : E.H dx = some (.own x)) (ne : dx ≠ x) (bx : ¬ E.b.hit x) (bd : ¬ E.b.hit dx) (gx : E.G x = none) (gd : E.G dx = none) (me : σ[0]? = some (some (.ref x))) (vs : List (Option V)) :
    TW X E C x dx σ (view ms ρ) G1 (SlX.slH H1 x C dx vs) b1 vs := by
  have m : Nxt E.G E.H E.b G1 H1 b1 := (I.frz n).nxt
  have kx := m.keep x _ ex bx
  have kd := m.keep dx _ ed bd
  have e : frE C x dx (SlX.slH H1 x C dx vs) = H1 := by
    funext a
    unfold frE SlX.slH
    by_cases h1 : a = x
    · rw [h1, upd_same, kx]
    · rw [upd_ne h1]
      by_cases h2 : a = dx
      · rw [h2, upd_same, kd]
      · rw [upd_ne h2, upd_ne h1, upd_ne h2]
  refine ⟨(I.rs ms).mono n.gg, me, m.new x _ ex gx, m.new dx _ ed gd, ?_, ?_, ne, by rw [← Bs.like_at m.like]; exact bx, by rw [← Bs.like_at m.like]; exact bd, ex, ed, by rw [e]; exact m⟩
  · unfold SlX.slH
    exact upd_same
  · unfold SlX.slH
    rw [upd_ne ne, upd_same]
end
section
variable {X : Cx} {C : Addr} {p0 p1 p2 p3 p4 p5 : Addr}
end
end DL
set_option Elab.async false
set_option maxRecDepth 100000
set_option autoImplicit false
set_option linter.unusedVariables false
set_option maxHeartbeats 4000000
namespace DL
open PySem L2 PySem.Spec PyProof.Rows
section
variable {prog : Program} {w : World} {A : Around} {E : Value → Shared → Prop} {s : Shared} {K : PySem.W.Frag} {x C f : Addr} {ox : Obj} {od : Option Obj}
end
section
variable [TAB : TabList]
variable [EFF : Eff]
set_option linter.unusedSectionVars false
variable {X : Cx} {C g : Addr} {c k : Nat} {CX : CXT} {n : Nat} {sp : Sp} {E : XK} {fd : FuncData} {ps : List Str} {Fn : List D → M D} {e : Expr} {fa : DL.Env → M (List D)} {p pos : Pos}
end
section
variable [TAB : TabList]
variable [EFF : Eff]
set_option linter.unusedSectionVars false
variable {X : Cx} {pos : Pos}
end
end DL
set_option Elab.async false
set_option maxRecDepth 100000
set_option autoImplicit false
set_option linter.unusedVariables false
set_option maxHeartbeats 4000000
namespace DL
open PySem L2 PySem.Spec PyProof.Rows
section
variable [TAB : TabList]
variable [EFF : Eff]
set_option linter.unusedSectionVars false
variable {X : Cx}
end
end DL
set_option Elab.async false
set_option maxRecDepth 100000
set_option autoImplicit false
set_option linter.unusedVariables false
set_option maxHeartbeats 4000000
namespace DL
open PySem L2 PySem.Spec PyProof.Rows
section
variable [TAB : TabList]
variable [EFF : Eff]
set_option linter.unusedSectionVars false
variable {X : Cx}
variable {a b : Expr} {f g : DL.Env → M D} {pos : Pos}
end
end DL
set_option Elab.async false
set_option maxRecDepth 100000
set_option autoImplicit false
set_option linter.unusedVariables false
set_option maxHeartbeats 4000000
namespace DL
open PySem L2 PySem.Spec PyProof.Rows
variable [TAB : TabList]
set_option linter.unusedSectionVars false
section
variable {P : Program} {w : World} {K : PySem.W.Frag} {mg : Str → Option Value} {base : Heap} {x qual : Str} {st st1 : Stmt} {f c0 P0 : Addr} {fd : FuncData} {N ps : List Str} {k : Nat} {Fs : Env2 → M Out} {l : LamI} {is : List Nat} {lp rp : Pos}
end
inductive RpE (K : PySem.W.Frag) (G H : Hp) (l : LamI) : List V → List D → Prop
  | nil : RpE K G H l [] []
  | cons {v : V} {vs : List V} {d : D} {ds : List D} : Rp K G v d → RpE K G H l vs ds → RpE K G H l (v :: vs) (d :: ds)
  | esc {f c : Addr} {cl : List (Str × Addr)} {ws vs : List V} {cs ds : List D} : G f = some (FunX f l cl c) → H c = some (LamX.CodeO c l.qual) → ClAt G l cl ws → RpL K G ws cs → RpE K G H l vs ds → RpE K G H l (.ref f :: vs) (.clo l cs :: ds)
section
variable {X : Cx} {l : LamI} {e : Expr} {es : List Expr} {f : DL.Env → M D} {fa fb : DL.Env → M (List D)}
end
end DL
set_option Elab.async false
set_option maxRecDepth 100000
set_option autoImplicit false
set_option linter.unusedVariables false
set_option maxHeartbeats 4000000
namespace DL
open PySem L2 PySem.Spec PyProof.Rows
variable [TAB : TabList]
variable [EFF : Eff]
set_option linter.unusedSectionVars false
section
variable {X : Cx} {pos : Pos}
end
end DL
set_option Elab.async false
set_option maxRecDepth 100000
set_option autoImplicit false
set_option linter.unusedVariables false
set_option maxHeartbeats 4000000
namespace DL
open PySem L2 PySem.Spec PyProof.Rows PySem.Calls PySem.NumText
variable [TAB : TabList]
variable [EFF : Eff]
set_option linter.unusedSectionVars false
end DL
set_option Elab.async false
set_option maxRecDepth 100000
set_option autoImplicit false
set_option linter.unusedVariables false
set_option maxHeartbeats 4000000
namespace DL
open PySem L2 PySem.Spec PyProof.Rows
variable [TAB : TabList]
variable [EFF : Eff]
set_option linter.unusedSectionVars false
section
variable {P : Program} {w : World} {K : PySem.W.Frag} {mg : Str → Option Value} {base : Heap}
variable {x qual : Str} {st : Stmt} {f : Addr} {fd : FuncData} {N ps : List Str} {k : Nat}
end
end DL
set_option Elab.async false
set_option maxRecDepth 100000
set_option autoImplicit false
set_option linter.unusedVariables false
set_option maxHeartbeats 4000000
namespace DL
open PySem L2 PySem.Spec PyProof.Rows
variable [TAB : TabList]
section
variable [EFF : Eff]
set_option linter.unusedSectionVars false
section
variable {X : Cx} {pos : Pos}
end
end
section
variable {P : Program} {w : World} {K : PySem.W.Frag} {mg : Str → Option Value} {base : Heap} {x qual : Str} {st : Stmt} {f c0 : Addr} {fd : FuncData} {N ps : List Str} {k : Nat} {Fs : Env2 → M OutE}
end
end DL
set_option Elab.async false
set_option maxRecDepth 100000
set_option autoImplicit false
set_option linter.unusedVariables false
set_option maxHeartbeats 4000000
namespace DL
open PySem L2 PySem.Spec PyProof.Rows
variable [TAB : TabList]
variable [EFF : Eff]
set_option linter.unusedSectionVars false
section
variable {X : Cx} {pos : Pos}
end
end DL
set_option Elab.async false
set_option maxRecDepth 100000
set_option autoImplicit false
set_option linter.unusedVariables false
set_option maxHeartbeats 4000000
namespace DL
open PySem L2 PySem.Spec PyProof.Rows PySem.W
variable [TAB : TabList]
variable [EFF : Eff]
set_option linter.unusedSectionVars false
section
variable {X : Cx}
end
section
variable {X : Cx} {tg : Expr}
end
end DL
set_option Elab.async false
set_option maxRecDepth 100000
set_option autoImplicit false
set_option linter.unusedVariables false
set_option maxHeartbeats 4000000
namespace DL
open PySem L2 PySem.Spec PyProof.Rows PySem.W
variable [TAB : TabList]
variable [EFF : Eff]
set_option linter.unusedSectionVars false
section
variable {prog : Program} {w : World} {A : Around} {E : Value → Shared → Prop} {s : Shared}
end
section
variable {X : Cx}
end
end DL
set_option Elab.async false
set_option maxRecDepth 100000
set_option autoImplicit false
set_option linter.unusedVariables false
set_option maxHeartbeats 4000000
namespace DL
open PySem L2 PySem.Spec PyProof.Rows PySem.W
variable [TAB : TabList]
variable [EFF : Eff]
set_option linter.unusedSectionVars false
section
variable {X : Cx}
end
end DL
set_option Elab.async false
set_option maxRecDepth 100000
set_option autoImplicit false
set_option linter.unusedVariables false
set_option maxHeartbeats 4000000
namespace DL
open PySem L2 PySem.Spec PyProof.Rows PySem.W
variable [TAB : TabList]
variable [EFF : Eff]
set_option linter.unusedSectionVars false
section
variable {X : Cx} {a b : Expr} {f g : Env → M D} {pos : Pos}
end
end DL
set_option Elab.async false
set_option maxRecDepth 100000
set_option autoImplicit false
set_option linter.unusedVariables false
set_option maxHeartbeats 4000000
namespace DL
open PySem L2 PySem.Spec PyProof.Rows PySem.W
variable [TAB : TabList]
variable [EFF : Eff]
set_option linter.unusedSectionVars false
abbrev NKs := List (NestedKey × Addr × Value)
def nestF (P : Program) (w : World) (d : Addr) (xs : NKs) (h : Heap) : Prop := ∃ o es ep, h.get? d = some o ∧ o.ExactDict ∧ o.data = .dict es ep ∧ es.toList = xs.map (entryOfKey (nestedKind P w))
def nestO (P : Program) (w : World) (d : Addr) (xs : NKs) : HO := .ext (nestF P w d xs)
structure NkOk (K : PySem.W.Frag) (H : Hp) (d : Addr) (xs : NKs) : Prop where
  ks : ∀ x ∈ xs, Dp K H (.ref x.2.1) x.1.data ∧ x.1.depth ≤ 8
  nd : (xs.map (·.1)).Nodup
  sys : (d == sysModules) = false
  sz : xs.length ≤ sizeLine
section
variable {X : Cx}
end
end DL
set_option Elab.async false
set_option maxRecDepth 100000
set_option autoImplicit false
set_option linter.unusedVariables false
set_option maxHeartbeats 4000000
namespace DL
open PySem L2 PySem.Spec PyProof.Rows PySem.W
variable [TAB : TabList]
variable [EFF : Eff]
set_option linter.unusedSectionVars false
section
variable {K : PySem.W.Frag} {E : En} {σ : L2.St} {ρ : Env2} {G H : Hp} {b : Bs}
end
end DL
set_option Elab.async false
set_option maxRecDepth 100000
set_option autoImplicit false
set_option linter.unusedVariables false
set_option maxHeartbeats 4000000
namespace DL
open PySem L2 PySem.Spec PyProof.Rows PySem.W
variable [TAB : TabList]
variable [EFF : Eff]
set_option linter.unusedSectionVars false
mutual
def nkD : D → Option NestedKey
  | .str x => some (.text ⟨x.toArray⟩)
  | .int i => some (.num i)
  | .tup xs => match nkDs xs with
    | some ks => some (.tup ks)
    | none => none
  | _ => none
def nkDs : List D → Option (List NestedKey)
  | [] => some []
  | d :: ds => match nkD d with
    | some k => match nkDs ds with
      | some ks => some (k :: ks)
      | none => none
    | none => none
end
mutual
theorem nkD_py : ∀ (d : D) {k : NestedKey}, nkD d = some k → toPy d = some k.data
  | .str x, k, h => by unfold nkD at h; cases h; unfold toPy; rfl
  | .int i, k, h => by unfold nkD at h; cases h; unfold toPy; rfl
  | .tup xs, k, h => by
    unfold nkD at h
    cases e : nkDs xs with
    | none => rw [e] at h; cases h
    | some ks =>
      rw [e] at h
      cases h
      unfold toPy
      rw [nkDs_py xs e]
      rfl
  | .non, k, h => by unfold nkD at h; cases h
  | .bl _, k, h => by unfold nkD at h; cases h
  | .lst _, k, h => by unfold nkD at h; cases h
  | .dct _ _, k, h => by unfold nkD at h; cases h
  | .dcT _ _, k, h => by unfold nkD at h; cases h
  | .obj _ _, k, h => by unfold nkD at h; cases h
  | .bag _, k, h => by unfold nkD at h; cases h
  | .scr _, k, h => by unfold nkD at h; cases h
  | .exc _ _ _ _, k, h => by unfold nkD at h; cases h
  | .clo _ _, k, h => by unfold nkD at h; cases h
theorem nkDs_py : ∀ (ds : List D) {ks : List NestedKey}, nkDs ds = some ks → toPyL ds = some (NestedKey.datas ks)
  | [], ks, h => by unfold nkDs at h; cases h; unfold toPyL; rfl
  | d :: ds, ks, h => by
    unfold nkDs at h
    cases e1 : nkD d with
    | none => rw [e1] at h; cases h
    | some k =>
      rw [e1] at h
      cases e2 : nkDs ds with
      | none => rw [e2] at h; cases h
      | some l =>
        rw [e2] at h
        cases h
        unfold toPyL
        rw [nkD_py d e1, nkDs_py ds e2]
        rfl
end
def keyT (d : D) : Option NestedKey := match d with
  | .tup xs => match nkD (.tup xs) with
    | some k => if k.depth ≤ 8 then some k else none
    | none => none
  | _ => none
theorem keyT_is {d : D} {k : NestedKey} (h : keyT d = some k) : (∃ xs, d = .tup xs) ∧ toPy d = some k.data ∧ k.depth ≤ 8 := by
  unfold keyT at h
  split at h
  · rename_i xs
    cases e : nkD (.tup xs) with
    | none => rw [e] at h; cases h
    | some k' =>
      rw [e] at h
      have h : (if k'.depth ≤ 8 then some k' else none) = some k := h
      by_cases c : k'.depth ≤ 8
      · rw [if_pos c] at h
        cases h
        exact ⟨⟨xs, rfl⟩, nkD_py _ e, c⟩
      · rw [if_neg c] at h
        cases h
  · cases h
structure Nst (X : Cx) (E : En) (σ : L2.St) (G H : Hp) (b : Bs) (j : Nat) (a : Addr) (xs : NKs) (seen : List NestedKey) : Prop where
  at_ : σ[j]? = some (some (V.ref a))
  obj : H a = some (nestO X.prog X.w a xs)
  g : G a = none
  e : E.H a = none
  nb : ¬ b.hit a
  ks : ∀ x ∈ xs, ∃ d, Rp X.K G (.ref x.2.1) d ∧ toPy d = some x.1.data ∧ x.1.depth ≤ 8
  sn : xs.map (·.1) = seen
  nd : seen.Nodup
  sys : (a == sysModules) = false
  sz : xs.length ≤ sizeLine
section
variable {X : Cx} {E : En} {σ : L2.St} {G H G1 H1 : Hp} {b b1 : Bs} {j : Nat} {a : Addr} {xs : NKs} {seen : List NestedKey}
theorem Nst.step (N : Nst X E σ G H b j a xs seen) (n : Nxt G H b G1 H1 b1) : Nst X E σ G1 H1 b1 j a xs seen :=
  ⟨N.at_, n.keep a _ N.obj N.nb, n.new a _ N.obj N.g, N.e, by rw [← Bs.like_at n.like]; exact N.nb, fun x hx => by
    obtain ⟨d, h1, h2⟩ := N.ks x hx
    exact ⟨d, h1.mono n.gg, h2⟩, N.sn, N.nd, N.sys, N.sz⟩
theorem Nst.ok (N : Nst X E σ G H b j a xs seen) (fz : SameF G H) : NkOk X.K H a xs :=
  ⟨fun x hx => by
    obtain ⟨d, h1, h2, h3⟩ := N.ks x hx
    exact ⟨(h1.dp h2).monoF fz, h3⟩, by rw [N.sn]; exact N.nd, N.sys, N.sz⟩
theorem Nst.add (N : Nst X E σ G H b j a xs seen) {q : Addr} {d : D} {k : NestedKey} (r : Rp X.K G (.ref q) d) (hk : keyT d = some k) (hn : k ∉ seen) (hz : seen.length < sizeLine) : Nst X E σ G (upd H a (nestO X.prog X.w a (xs ++ [(k, q, .bool true)]))) b j a (xs ++ [(k, q, .bool true)]) (seen ++ [k]) := by
  have hl : xs.length = seen.length := by rw [← N.sn, List.length_map]
  refine ⟨N.at_, upd_same, N.g, N.e, N.nb, fun x hx => ?_, by rw [List.map_append, N.sn]; rfl, ?_, N.sys, by rw [List.length_append, List.length_singleton]; omega⟩
  · rcases List.mem_append.mp hx with hx | hx
    · exact N.ks x hx
    · rw [List.mem_singleton.mp hx]
      obtain ⟨_, h1, h2⟩ := keyT_is hk
      exact ⟨d, r, h1, h2⟩
  · rw [List.nodup_append]
    refine ⟨N.nd, by simp, fun u hu v hv e => ?_⟩
    rw [List.mem_singleton.mp hv] at e
    exact hn (e ▸ hu)
end
end DL
set_option Elab.async false
set_option maxRecDepth 100000
set_option autoImplicit false
set_option linter.unusedVariables false
set_option maxHeartbeats 4000000
namespace DL
open PySem L2 PySem.Spec PyProof.Rows PySem.W
variable [TAB : TabList]
variable [EFF : Eff]
set_option linter.unusedSectionVars false
section
variable {X : Cx}
end
end DL
set_option Elab.async false
set_option maxRecDepth 100000
set_option autoImplicit false
set_option linter.unusedVariables false
set_option maxHeartbeats 4000000
namespace DL
open PySem L2 PySem.Spec PyProof.Rows PySem.W
variable [TAB : TabList]
set_option linter.unusedSectionVars false
theorem BagOk.cell {G H : Hp} {g : Bg} {a : Addr} {k : Nat} {c : Cell} (ob : BagOk G H (some g)) (ha : G a = some (ghost k)) (hc : g.st[k]? = some c) : CellAt G H a c := by
  obtain ⟨a2, h1, h2⟩ := ob.1.2.2.2.at_ k c hc
  rw [ob.1.2.2.2.one a a2 k ha h1]
  exact h2
def celG (k : Nat) : M Cell := fun b => match b with
  | some g => (g.st[k]?).map fun c => (c, some g)
  | none => none
theorem celG_some {k : Nat} {b b' : Bs} {c : Cell} (h : celG k b = some (c, b')) : ∃ g, b = some g ∧ b' = some g ∧ g.st[k]? = some c := by
  unfold celG at h
  cases b with
  | none => cases h
  | some g =>
    have h : (g.st[k]?).map (fun c => (c, some g)) = some (c, b') := h
    cases e : g.st[k]? with
    | none => rw [e] at h; cases h
    | some c2 => rw [e] at h; cases h; exact ⟨g, rfl, rfl, e⟩
def celN (c : Cell) : M Nat := fun b => match b with
  | some g => some (g.st.length, some { g with st := g.st ++ [c] })
  | none => none
theorem NxtB.newC {x : Bool} (hx : x = true) {G H G' H' : Hp} {b : Bs} {g : Bg} {p : Addr} {c : Cell} (n : NxtB x G H b G' H' (some g)) (ob : BagOk G H b) (hp : H p = none) (gp : G' p = none) (hh : H' p ≠ none) (hc : CellAt G' H' p c) :
    NxtB x G H b (upd G' p (ghost g.st.length)) H' (some { g with st := g.st ++ [c] }) := by
  have sg : Same G' (upd G' p (ghost g.st.length)) := upd_more gp
  have nb : ¬ Bs.hit (some g) p := by rw [← Bs.like_at n.like]; exact bag_ne ob hp
  obtain ⟨⟨p1, p2, p3, p4⟩, ot⟩ := n.bag
  have old : ∀ a k, upd G' p (ghost g.st.length) a = some (ghost k) → (a = p ∧ k = g.st.length) ∨ (a ≠ p ∧ G' a = some (ghost k)) := fun a k h => by
    by_cases z : a = p
    · rw [z, upd_same] at h
      exact .inl ⟨z, (ghost_inj (Option.some.inj h)).symm⟩
    · rw [upd_ne z] at h
      exact .inr ⟨z, h⟩
  refine ⟨fun a o h => sg a o (n.gg a o h), fun a u h => ?_, n.keepB, fun a u h hn => ?_, ⟨⟨?_, p2, sg _ _ p3, fun j d e => ?_, fun a a2 k h h2 => ?_, fun a k h => ?_⟩, fun q hq => ⟨?_, (ot q hq).2⟩⟩, ?_⟩
  · by_cases z : a = p
    · rw [z, upd_same] at h
      cases h
      rw [z]
      exact hh
    · rw [upd_ne z] at h; exact n.fz a u h
  · rw [upd_ne (ne_of_none h hp)]; exact n.new a u h hn
  · rw [upd_ne fun z => nb (.inl (by rw [← z]; rfl))]; exact p1
  · have e : (g.st ++ [c])[j]? = some d := e
    by_cases z : j < g.st.length
    · rw [List.getElem?_append_left z] at e
      obtain ⟨a, h1, h2⟩ := p4.at_ j d e
      exact ⟨a, sg _ _ h1, h2.ext sg rfl⟩
    · rw [List.getElem?_append_right (by omega)] at e
      obtain ⟨i, hi⟩ : ∃ i, j - g.st.length = i := ⟨_, rfl⟩
      rw [hi] at e
      cases i with
      | zero =>
        cases e
        have : j = g.st.length := by omega
        subst this
        exact ⟨p, upd_same, hc.ext sg rfl⟩
      | succ i => cases e
  · rcases old a k h with ⟨h1, h3⟩ | ⟨h1, h3⟩ <;> rcases old a2 k h2 with ⟨k1, k3⟩ | ⟨k1, k3⟩
    · rw [h1, k1]
    · have := p4.lt _ _ k3; omega
    · have := p4.lt _ _ h3; omega
    · exact p4.one a a2 k h3 k3
  · show k < (g.st ++ [c]).length
    rw [List.length_append, List.length_singleton]
    rcases old a k h with ⟨h1, h3⟩ | ⟨h1, h3⟩
    · omega
    · have := p4.lt _ _ h3; omega
  · rw [upd_ne fun z => nb (.inr ⟨q.2, by rw [← z]; exact hq⟩)]; exact (ot q hq).1
  · refine Bs.like_trans n.like ⟨rfl, rfl, rfl, fun z => by rw [hx] at z; cases z⟩
theorem Rp.cel_at {K : PySem.W.Frag} {G : Hp} {v : V} {k : Nat} (r : Rp K G v (.cel k)) : ∃ a, v = .ref a ∧ G a = some (ghost k) := by
  cases r with
  | cel h => exact ⟨_, rfl, h⟩
def cLst (k : Nat) : M (List D) := M.bind (celG k) fun c => match c with
  | .lst xs => M.ret xs
  | _ => M.fail
def cObj (c k : Nat) : M (List (Option D)) := M.bind (celG k) fun x => match x with
  | .obj c' fs => M.guard (c' == c) (M.ret fs)
  | _ => M.fail
theorem cLst_some {k : Nat} {b b' : Bs} {xs : List D} (h : cLst k b = some (xs, b')) : ∃ g, b = some g ∧ b' = some g ∧ g.st[k]? = some (.lst xs) := by
  obtain ⟨c, b1, h1, h2⟩ := M.bind_some h
  obtain ⟨g, rfl, rfl, hc⟩ := celG_some h1
  cases c with
  | lst ys => cases h2; exact ⟨g, rfl, rfl, hc⟩
  | _ => cases h2
theorem BagOk.lstC {K : PySem.W.Frag} (hK : TAB.K = some K) {G H : Hp} {b b' : Bs} {v : V} {k : Nat} {xs : List D} (ob : BagOk G H b) (r : Rp K G v (.cel k)) (h : cLst k b = some (xs, b')) : ∃ g a vs, b = some g ∧ b' = some g ∧ v = .ref a ∧ G a = some (ghost k) ∧ H a = some (.lst vs) ∧ RpL K G vs xs ∧ nocL xs = true := by
  obtain ⟨g, rfl, rfl, hc⟩ := cLst_some h
  obtain ⟨a, rfl, ha⟩ := r.cel_at
  obtain ⟨K2, vs, k1, nc, p, rl⟩ := ob.cell ha hc
  rw [hK] at k1
  cases k1
  exact ⟨g, a, vs, rfl, rfl, rfl, ha, p, rl, nc⟩
theorem RpO.get {K : PySem.W.Frag} {G : Hp} : ∀ {vs : List (Option V)} {ds : List (Option D)} {i : Nat} {d : D}, RpO K G vs ds → ds[i]? = some (some d) → ∃ v, vs[i]? = some (some v) ∧ Rp K G v d
  | _, _, _, _, .nil, h => by simp at h
  | _, _, 0, _, .no _, h => by simp at h
  | _, _, 0, _, .yes a _, h => by
    have e := Option.some.inj (Option.some.inj (by simpa using h : some (some _) = some (some _)))
    subst e
    exact ⟨_, rfl, a⟩
  | _, _, i + 1, d, .no b, h => by
    obtain ⟨v, h1, h2⟩ := RpO.get (i := i) (d := d) b (by simpa using h)
    exact ⟨v, by simpa using h1, h2⟩
  | _, _, i + 1, d, .yes _ b, h => by
    obtain ⟨v, h1, h2⟩ := RpO.get (i := i) (d := d) b (by simpa using h)
    exact ⟨v, by simpa using h1, h2⟩
theorem RpO.length {K : PySem.W.Frag} {G : Hp} : ∀ {vs : List (Option V)} {ds : List (Option D)}, RpO K G vs ds → vs.length = ds.length
  | _, _, .nil => rfl
  | _, _, .no b => by simp [RpO.length b]
  | _, _, .yes _ b => by simp [RpO.length b]
section
variable {X : Cx} {c : Nat} {C : Addr} {e o : Expr} {es : List Expr} {f : Env → M D} {fa : Env → M (List D)} {pos apos : Pos} {fld m : Str} {k : Nat} {g : Addr} {fd : FuncData} {ps : List Str} {n : Nat} {Fn : List D → M D} {Fl : List D → M (List D)}
end
end DL
set_option Elab.async false
set_option maxRecDepth 100000
set_option autoImplicit false
set_option linter.unusedVariables false
set_option maxHeartbeats 4000000
namespace DL
open PySem L2 PySem.Spec PyProof.Rows PySem.W
variable [TAB : TabList]
variable [EFF : Eff]
set_option linter.unusedSectionVars false
def putO (i : Nat) (y : D) (fs : List (Option D)) : List (Option D) := (fs ++ List.replicate (i + 1 - fs.length) none).set i (some y)
theorem RpO.app {K : PySem.W.Frag} {G : Hp} : ∀ {vs ws : List (Option V)} {ds es : List (Option D)}, RpO K G vs ds → RpO K G ws es → RpO K G (vs ++ ws) (ds ++ es)
  | _, _, _, _, .nil, h => h
  | _, _, _, _, .no b, h => .no (RpO.app b h)
  | _, _, _, _, .yes a b, h => .yes a (RpO.app b h)
theorem RpO.rep {K : PySem.W.Frag} {G : Hp} : ∀ n : Nat, RpO K G (List.replicate n Option.none) (List.replicate n Option.none)
  | 0 => .nil
  | n + 1 => .no (RpO.rep n)
theorem RpO.setD {K : PySem.W.Frag} {G : Hp} {v : V} {d : D} (r : Rp K G v d) : ∀ {vs : List (Option V)} {ds : List (Option D)} (i : Nat), RpO K G vs ds → RpO K G (vs.set i (Option.some v)) (ds.set i (Option.some d))
  | _, _, _, .nil => .nil
  | _, _, 0, .no b => .yes r b
  | _, _, 0, .yes _ b => .yes r b
  | _, _, i + 1, .no b => .no (RpO.setD r i b)
  | _, _, i + 1, .yes a b => .yes a (RpO.setD r i b)
theorem RpO.put {K : PySem.W.Frag} {G : Hp} {vs : List (Option V)} {fs : List (Option D)} {v : V} {d : D} (i : Nat) (r : RpO K G vs fs) (rv : Rp K G v d) : RpO K G (SlX.putS i v vs) (putO i d fs) := by
  unfold SlX.putS putO
  rw [r.length]
  exact RpO.setD rv i (r.app (RpO.rep _))
def newC (f : Env → M (List D)) : Env → M ER := fun ρ => M.bind (f ρ) fun xs => M.guard (nocL xs) (M.bind (celN (.lst xs)) fun k => M.ret (.ok (.cel k)))
section
variable {X : Cx} {W : WX} {o e a : Expr} {es : List Expr} {f g : Env → M D} {fa : Env → M (List D)} {pos apos cpos : Pos}
end
section
variable {X : Cx} {W : WX} {CX : CXT} {c k n : Nat} {C g : Addr} {fd : FuncData} {ps : List Str} {sp : Sp} {E : L2.St → XK} {o e : Expr} {es : List Expr} {m : Str} {pos apos : Pos} {ta : TE} {t : TA} {f : Env → M D} {fa : Env → M (List D)} {Fl : List D → M ER}
end
section
variable {X : Cx} {W : WX} {e : Expr} {pos : Pos} {f : Env → M ER}
end
end DL
set_option Elab.async false
set_option maxRecDepth 100000
set_option autoImplicit false
set_option linter.unusedVariables false
set_option maxHeartbeats 4000000
namespace DL
open PySem L2 PySem.Spec PyProof.Rows PySem.W
variable [TAB : TabList]
variable [EFF : Eff]
set_option linter.unusedSectionVars false
inductive AR where
  | ok (ds : List D) | ex (c : Nat) (fs : List D)
section
variable {X : Cx} {W : WX} {e a : Expr} {es : List Expr} {pos : Pos} {f : Env → M ER} {g : Env → M AR}
end
section
variable {X : Cx} {W : WX} {k n : Nat} {f : Addr} {fd : FuncData} {ps : List Str} {x : Str} {p pos : Pos} {e a c : Expr} {es : List Expr} {Fn : List D → M D} {Fl : List D → M ER} {fa : Env → M AR} {g1 g2 : Env → M ER} {h : D → D → M D} {r : R2}
theorem QE.weakB {K : PySem.W.Frag} {G H G1 H1 : Hp} {b b1 b' : Bs} {Q : VK} {Ex : XK} {x : ER} (n : NxtB EFF.x G H b G1 H1 b1) (q : QE K G H b b' Q Ex x) : QE K G1 H1 b1 b' Q Ex x := by
  cases x with
  | ok d => exact fun v G2 H2 n2 r => q v G2 H2 (n.trans n2) r
  | ex c fs => exact fun G2 H2 cls d n2 r => q G2 H2 cls d (n.trans n2) r
end
inductive TR where
  | ok (k : Bool) | ex (c : Nat) (fs : List D)
def QT (K : PySem.W.Frag) (G H : Hp) (b b' : Bs) (Q : Bool → Hp → Prop) (Ex : XK) : TR → Prop
  | .ok k => ∀ G' H', NxtB EFF.x G H b G' H' b' → Q k H'
  | .ex c fs => ∀ G' H' cls d, NxtB EFF.x G H b G' H' b' → ExP K c fs G' cls d → Ex cls d H'
theorem QT.weakB {K : PySem.W.Frag} {G H G1 H1 : Hp} {b b1 b' : Bs} {Q : Bool → Hp → Prop} {Ex : XK} {x : TR} (n : NxtB EFF.x G H b G1 H1 b1) (q : QT K G H b b' Q Ex x) : QT K G1 H1 b1 b' Q Ex x := by
  cases x with
  | ok d => exact fun G2 H2 n2 => q G2 H2 (n.trans n2)
  | ex c fs => exact fun G2 H2 cls d n2 r => q G2 H2 cls d (n.trans n2) r
section
variable {X : Cx} {W : WX} {e a b : Expr} {rest : List Expr} {pos : Pos} {f g : Env → M TR}
end
section
variable {X : Cx} {W : WX} {pos : Pos} {F1 F2 : Env2 → M OutE}
theorem FinE.up {K : PySem.W.Frag} {E : En} {σ1 : L2.St} {ρ1 : Env2} {G1 H1 : Hp} {b1 : Bs} {D : Ends} {b' : Bs} {o : OutE} (I : SI K E σ1 ρ1 G1 H1 b1) (q : FinE K E D W b' o) : FinE K ⟨G1, E.H, E.b⟩ D W b' o := by
  cases o with
  | o x => exact Fin.up I q
  | ex c fs ρ => exact fun σ' G' H' cls d J x => q σ' G' H' cls d (I.down J) x
end
section
variable {X : Cx} {W : WX} {pos : Pos} {tg iter : Expr} {body : List Stmt} {gi : Env → M (List D)} {g : TG} {bs : D → Option (List (Nat × D))} {is : List Nat} {Fb : Env2 → M OutE}
end
end DL
set_option Elab.async false
set_option maxRecDepth 100000
set_option autoImplicit false
set_option linter.unusedVariables false
set_option maxHeartbeats 4000000
namespace DL
open PySem L2 PySem.Spec PyProof.Rows PySem.W
variable [TAB : TabList]
set_option linter.unusedSectionVars false
end DL
set_option Elab.async false
set_option maxRecDepth 100000
set_option autoImplicit false
set_option linter.unusedVariables false
set_option maxHeartbeats 4000000
namespace DL
open PySem L2 PySem.Spec PyProof.Rows PySem.W
variable [TAB : TabList]
variable [EFF : Eff]
set_option linter.unusedSectionVars false
section
variable {X : Cx} {a e : Expr} {f g : Env → M D} {pos : Pos}
end
section
variable {X : Cx} {tg e : Expr} {f : Env → M D}
end
section
variable {X : Cx} {W : WX} {pos : Pos} {tg iter : Expr} {body : List Stmt} {f : Env → M D} {g : TG} {bs : D → Option (List (Nat × D))} {is : List Nat} {Fb : Env2 → M Out} {Fx : Env2 → M OutE}
end
end DL
set_option Elab.async false
set_option maxRecDepth 100000
set_option autoImplicit false
set_option linter.unusedVariables false
set_option maxHeartbeats 4000000
namespace DL
open PySem L2 PySem.Spec PyProof.Rows PySem.W
variable [TAB : TabList]
variable [EFF : Eff]
set_option linter.unusedSectionVars false
section
variable {X : Cx} {op : Operator} {rd : V → V → Hp → VK → Prop} {o value : Expr} {C p : Addr} {i : Nat} {f : Str} {ta tv : TE} {pos tpos : Pos}
end
end DL
set_option Elab.async false
set_option maxRecDepth 100000
set_option autoImplicit false
set_option linter.unusedVariables false
set_option maxHeartbeats 4000000
namespace DL
open PySem L2 PySem.Spec PyProof.Rows PySem.W
variable [TAB : TabList]
variable [EFF : Eff]
set_option linter.unusedSectionVars false
section
variable {X : Cx} {C : Addr}
end
section
variable {X : Cx} {W : WX} {CX : CXT} {c k n : Nat} {C f : Addr} {fd : FuncData} {ps : List Str} {sp : Sp} {E : L2.St → XK} {x : Str} {e : Expr} {es : List Expr} {p pos : Pos} {t : TA} {Fl : List D → M ER}
end
section
variable {X : Cx} {W : WX} {c : Nat} {C : Addr}
end
end DL
set_option Elab.async false
set_option maxRecDepth 100000
set_option autoImplicit false
set_option linter.unusedVariables false
set_option maxHeartbeats 4000000
namespace DL
open PySem L2 PySem.Spec PyProof.Rows PySem.W
variable [TAB : TabList]
set_option linter.unusedSectionVars false
def lsS : D → M (List D)
  | .cel k => cLst k
  | .lst xs => M.ret xs
  | _ => M.fail
theorem BagOk.lsS {K : PySem.W.Frag} (hK : TAB.K = some K) {G H : Hp} {b b' : Bs} {v : V} {d : D} {xs : List D} (fz : SameF G H) (ob : BagOk G H b) (r : Rp K G v d) (h : DL.lsS d b = some (xs, b')) : ∃ a vs, v = .ref a ∧ b' = b ∧ H a = some (.lst vs) ∧ RpL K G vs xs := by
  cases d with
  | cel k =>
    obtain ⟨g, a, vs, rfl, rfl, rfl, ha, hH, rl, _⟩ := ob.lstC hK r h
    exact ⟨a, vs, rfl, rfl, hH, rl⟩
  | lst ys =>
    cases h
    cases r with
    | lst h1 h2 => exact ⟨_, _, rfl, rfl, fz _ _ h1, h2⟩
  | _ => cases h
section
variable {X : Cx} {a c e : Expr} {f g : Env → M D} {fa : Env → M (List D)} {p pos : Pos}
end
def WdR : Option Int → Option Value → Prop
  | some i, some (.int j _) => i = j
  | none, none => True
  | _, _ => False
structure WdAt (K : PySem.W.Frag) (w : World) (mg : Str → Option Value) (x : Str) (wd : List (List Nat × Int)) : Prop where
  ex : ∃ d es n, mg x = some (.ref d) ∧ KDict K w d es n ∧ ∀ z : List Nat, ∃ r, PySem.W.nsIn K d ⟨z.toArray⟩ = some r ∧ WdR (wd.lookup z) r
theorem WdR.some {o : Option Int} {r : Option Value} (h : WdR o r) : r.isSome = o.isSome := by
  cases o <;> cases r <;> first | rfl | exact h.elim
section
variable {X : Cx} {a e : Expr} {f g : Env → M D} {x : Str} {wd : List (List Nat × Int)} {p pos : Pos}
end
end DL
set_option Elab.async false
set_option maxRecDepth 100000
set_option autoImplicit false
set_option linter.unusedVariables false
set_option maxHeartbeats 4000000
namespace DL
open PySem L2 PySem.Spec PyProof.Rows PySem.W
variable [TAB : TabList]
variable [EFF : Eff]
set_option linter.unusedSectionVars false
def YlC (K : PySem.W.Frag) (G0 : Hp) (b0 : Bs) (J : It) (ds : List D) : Prop := ∀ (i : Nat) (G H : Hp) (b : Bs), Same G0 G → SameF G H → BagOk G H b → b0.like b →
  (∀ d, ds[i]? = some d → J.go i H ∧ ∀ x H', J.yld i H x H' → ∃ G', Nxt G H b G' H' b ∧ Rp K G' x d) ∧ (ds.length ≤ i → J.stop i H)
theorem Yl.c {K : PySem.W.Frag} {G0 : Hp} {b0 : Bs} {J : It} {ds : List D} (h : Yl K G0 J ds) : YlC K G0 b0 J ds := fun i G H b s f o _ => h i G H b s f o
def iFC (K : PySem.W.Frag) (g : Env → M (List D)) : TI := fun σ H R => ∃ ρ G b ds b', RS K G σ ρ ∧ SameF G H ∧ BagOk G H b ∧ g ρ b = some (ds, b') ∧
  ∀ J G' H', Nxt G H b G' H' b' → YlC K G' b' J ds → R J H'
abbrev DIC (X : Cx) (tg e : Expr) (g : Env → M (List D)) : Prop := PI X tg e (iFC X.K g)
theorem DI.c {X : Cx} {tg e : Expr} {g : Env → M (List D)} (h : DI X tg e g) : DIC X tg e g := PIimp h fun σ H R ⟨ρ, G, b, ds, b', rs, fz, ob, e, q⟩ => ⟨ρ, G, b, ds, b', rs, fz, ob, e, fun J G' H' n y => q J G' H' n y.c⟩
section
variable {X : Cx} {W : WX} {pos : Pos} {tg iter : Expr} {body : List Stmt} {gi : Env → M (List D)} {g : TG} {bs : D → Option (List (Nat × D))} {is : List Nat} {Fb : Env2 → M Out}
end
section
variable {X : Cx} {W : WX} {st : Stmt} {rest : List Stmt} {F : Env2 → M OutE}
end
section
variable {P : Program} {w : World} {K : PySem.W.Frag} {mg : Str → Option Value} {base : Heap} {x qual : Str} {st : Stmt} {f : Addr} {fd : FuncData} {N ps : List Str} {k : Nat} {Fs : Env2 → M OutE}
end
section
variable {X : Cx} {W : WX} {k : Nat} {f : Addr} {fd : FuncData} {ps : List Str} {x : Str} {p pos : Pos} {e : Expr} {es : List Expr} {n : Nat} {Fl : List D → M ER} {fa : Env → M (List D)}
end
end DL
set_option Elab.async false
set_option maxRecDepth 100000
set_option autoImplicit false
set_option linter.unusedVariables false
set_option maxHeartbeats 4000000
namespace DL
open PySem L2 PySem.Spec PyProof.Rows PySem.W
variable [TAB : TabList]
set_option linter.unusedSectionVars false
section
variable [EFF : Eff]
end
section
variable {X : Cx} {a b e : Expr} {pos p : Pos} {c : Nat} {C g : Addr} {k : Nat} {fd : FuncData} {ps : List Str} {f h : Env → M D} {fa : Env → M (List D)} {Fn : List D → M D} {R : List D → M D}
end
section
variable [EFF : Eff]
variable {X : Cx} {W : WX}
end
end DL
set_option Elab.async false
set_option maxRecDepth 100000
set_option autoImplicit false
set_option linter.unusedVariables false
set_option maxHeartbeats 4000000
namespace DL
open PySem L2 PySem.Spec PyProof.Rows PySem.W
variable [TAB : TabList]
set_option linter.unusedSectionVars false
structure FnIt (P : Program) (w : World) (K : PySem.W.Frag) (mg : Str → Option Value) (base : Heap) (k : Nat) (f : Addr) (fd : FuncData) (ps : List Str) (c i : Nat) : Prop where
  len : ps.length = 1
  run : ∀ (A : Around) (outer : List PySem.Env) (s : Shared) (H G : Hp) (b : Bs) (args : Args) (us : List Value) (x : V) (j l : Nat) (fs : List (Option D)) (xs : List D), Room k A → Env0 P w K mg base A outer s H → BindsTo s fd args (ps.zip us) → Vals [x] us →
    Rp K G x (.cel j) → SameF G H → BagOk G H b → cObj c j b = some (fs, b) → fs[i]? = some (some (.cel l)) → cLst l b = some (xs, b) →
    codeAny (model P w) A (.call (.ref f) args) (CR CX0 outer P w H s (fun v H' => ∃ it a G2 H2, Nxt G H b G2 H2 b ∧ v = .ref it ∧ s.heap.objs.size ≤ it ∧ H2 it = none ∧ G2 a = some (ghost l) ∧ H' = upd H2 it (ItO a it 0)) E0) s
section
variable {P : Program} {w : World} {K : PySem.W.Frag} {mg : Str → Option Value} {base : Heap} {x qual : Str} {st : Stmt} {f : Addr} {fd : FuncData} {N ps : List Str} {k c i : Nat}
end
section
variable {X : Cx} {tg e : Expr} {f : Env → M D} {c i k : Nat} {C g : Addr} {fd : FuncData} {ps : List Str}
end
end DL
set_option Elab.async false
set_option maxRecDepth 100000
set_option autoImplicit false
set_option linter.unusedVariables false
set_option maxHeartbeats 4000000
namespace DL
open PySem L2 PySem.Spec PyProof.Rows PySem.W
section
variable (ρ : Env) (ρ2 : Env2) (ms : List Nat) (c i j k l n : Nat) (x d e : D) (xs ds : List D) (fs : List D) (os : List (Option D))
end
section
variable {α β : Type} {p : Addr} {st : List Cell} {Q : α → List Cell → Prop}
theorem TotS.bnd {m : M α} {f : α → M β} {P : α → List Cell → Prop} {Q : β → List Cell → Prop} {t : Tg f} (h : TotS p st m P) (k : ∀ a st', P a st' → TotS p st' (f a) Q) : TotS p st (DL.bnd m f t) Q := TotS.bind h k
end
end DL
set_option Elab.async false
set_option maxRecDepth 100000
set_option autoImplicit false
set_option linter.unusedVariables false
set_option maxHeartbeats 4000000
namespace DL
open PySem L2 PySem.Spec PyProof.Rows PySem.W
structure InitC (K : PySem.W.Frag) (C : Addr) (qual : Str) (st : Stmt) (ps : List Str) (f : Addr) (fd : FuncData) : Prop where
  fn : Fun K "__init__" qual st f fd
  bd : Binds K fd ps []
  im : Mk K C f
section
variable [TAB : TabList] {X : Cx} {a : Expr} {c i : Nat} {p pos : Pos}
end
end DL
set_option Elab.async false
set_option maxRecDepth 100000
set_option autoImplicit false
set_option linter.unusedVariables false
set_option maxHeartbeats 4000000
namespace DL
open PySem L2 PySem.Spec PyProof.Rows PySem.W
variable [TAB : TabList]
variable [EFF : Eff]
set_option linter.unusedSectionVars false
section
variable {X : Cx} {W : WX} {k n : Nat} {f : Addr} {fd : FuncData} {ps : List Str} {x : Str} {p pos : Pos} {e : Expr} {es : List Expr} {Fn : List D → M D} {Fl : List D → M ER} {fa : Env → M AR}
end
section
variable {X : Cx} {a : Expr} {f : Env → M D} {x : Str} {wd : List (List Nat × Int)} {p pos : Pos}
end
end DL
set_option Elab.async false
set_option maxRecDepth 100000
set_option autoImplicit false
set_option linter.unusedVariables false
set_option maxHeartbeats 4000000
namespace DL
open PySem L2 PySem.Spec PyProof.Rows PySem.W
variable [TAB : TabList]
set_option linter.unusedSectionVars false
section
variable {X : Cx} {a : Expr} {f : Env → M D} {pos p2 : Pos}
end
theorem q_cut2 (a b : D) : cutL [a, b] none (some 2) = [a, b] := rfl
theorem q_cut3 (a b c : D) : cutL [a, b, c] none (some 2) = [a, b] := rfl
end DL
set_option Elab.async false
set_option maxRecDepth 100000
set_option autoImplicit false
set_option linter.unusedVariables false
set_option maxHeartbeats 4000000
namespace DL
open PySem L2 PySem.Spec PyProof.Rows
variable [TAB : TabList]
set_option linter.unusedSectionVars false
section
variable {X : Cx}
end
theorem RpL.cnt {K : PySem.W.Frag} {G : Hp} {w : V} {e : D} (re : Rp K G w e) (he : flatD e = true) : ∀ {vs : List V} {ds : List D}, RpL K G vs ds → ds.all flatD = true → (vs.countP fun z => eqV z w) = ds.countP fun z => eqF z e
  | _, _, .nil, _ => rfl
  | _, _, .cons (v := v) (d := d) (ds := ds) r rl, hf => by
    rw [List.all_cons, Bool.and_eq_true] at hf
    rw [List.countP_cons, List.countP_cons, RpL.cnt re he rl hf.2, r.eqV re hf.1 he]
section
variable {X : Cx} {a b : Expr} {f g : Env → M D} {pos : Pos}
end
end DL
set_option Elab.async false
set_option maxRecDepth 100000
set_option autoImplicit false
set_option linter.unusedVariables false
set_option maxHeartbeats 4000000
namespace DL
open PySem L2 PySem.Spec PyProof.Rows
variable [TAB : TabList]
variable [EFF : Eff]
set_option linter.unusedSectionVars false
section
variable {X : Cx} {tg : Expr} {p pos : Pos}
end
section
variable {X : Cx} {pos : Pos}
end
end DL
set_option Elab.async false
set_option maxRecDepth 100000
set_option autoImplicit false
set_option linter.unusedVariables false
set_option maxHeartbeats 4000000
namespace PySem
namespace ErrX
open PySem.W PySem.Calls PyProof.Rows PySem.HandSPX
def iA0 (p1 : Pos) : Arguments := { posonlyargs := [], args := [{ arg := "self", annotation := none, pos := p1 }], vararg := none, kwonlyargs := [], kw_defaults := [], kwarg := none, defaults := [] }
def iB0 (t : Str) (j : Nat) (q0 q1 q2 q3 q4 q5 : Pos) : List Stmt := [.Expr (.Call (.Attribute (.Call (.Name "super" q0) [] [] q1) "__init__" q2) [.Constant (.str t) j q3] [] q4) q5]
def iS0 : Scope := { kind := .function, names := [(PySem.Str.ofString "self", .local), (PySem.Str.ofString "__class__", .free), (PySem.Str.ofString "super", .globalImplicit)], isGenerator := false, isCoroutine := false, more := [] }
structure ErrTxt0 (P : Program) (K : Frag) (mg : Str → Option Value) (x : Str) (C fI : Addr) : Prop where
  gC : mg x = some (.ref C)
  cls : ∃ nm q N bs bm sn sub ab col dd k0 k1 k2 k3 k5, K.lookup C = some (excClassObj nm q C N bs bm true sn sub ab col dd k0 k1 k2 k3 k5 "ValueError.__new__") ∧ refsVE bm = true
  xf : L2.XfC K C
  isx : L2.ExcC K C
  iC : findIn K (.ref C) "__init__" = some (some (.ref fI))
  tC : typeIn K (.ref fI) = some (.type "function")
  kC : keepIn K (.ref C) = true
  tyC : typeIn K (.ref C) = some (.type "type")
  su : ks_superIn K C C "__init__" = some (some (.builtin "ValueError.__init__"))
  sub : mroIn K C (.ref C) = some true
  subV : subIn K (.ref C) (.type "ValueError") = some true
  noS : nsIn K mainGlobals "super" = some none
  opq : nsIn K cStatics "thirdparty.any" = some none
  fn : ∃ (oc : Value) (od : Option Addr) (dV kV doc pm : Value) (an : Option Addr) (cda cc : Addr) (ct : Value) (osl : Array (Option Value)) (qual t : Str) (j : Nat) (p1 q0 q1 q2 q3 q4 q5 : Pos) (fd : FuncData) (ccl cl : Value) (cdd cld : Option Addr) (vs : Array Value) (ccs csl : Array (Option Value)) (file : Str) (tf : Tok),
    (∀ L : Addr, ∃ pl : Sem Bool, eval (.Call (.Attribute (.Call (.Name "super" q0) [] [] q1) "__init__" q2) [.Constant (.str t) j q3] [] q4) (ksEnv qual iS0 L fI (.ref cda) cc) = (do
      let ov ← attributeBase (.Call (.Name "super" q0) [] [] q1) "__init__" (ksEnv qual iS0 L fI (.ref cda) cc) (eval (.Call (.Name "super" q0) [] [] q1) (ksEnv qual iS0 L fI (.ref cda) cc))
      standAt q2.atName
      let (fu, first) ← holding [ov] (getMethod ov "__init__" pl)
      callWith q4 fu first (backTo q4 (starEach [.Constant (.str t) j q3] (ksEnv qual iS0 L fI (.ref cda) cc))) [])) ∧
    K.lookup fI = some ⟨oc, od, .func fd, osl⟩ ∧ fd = ksFn "__init__" qual (iA0 p1) (iB0 t j q0 q1 q2 q3 q4 q5) iS0 dV kV doc pm an (.ref cda) ct cc ∧ codeIn K (.ref cda) qual = true ∧ (∀ (s : Shared) (a : Value), BindsTo s fd ⟨[a], []⟩ [("self", a)]) ∧
    K.lookup cda = some ⟨ccl, cdd, .fields vs, ccs⟩ ∧ vs[2]? = some (.str file tf) ∧ PrOk P file ∧ K.lookup cc = some ⟨cl, cld, .cell (some (.ref C)), csl⟩
structure OwnMade0 (h h' : Heap) (e C : Addr) : Prop where
  keep : ∀ b o, h.get? b = some o → h'.get? b = some o
  new : h.objs.size ≤ e
  obj : ∃ oe vs, h'.get? e = some oe ∧ oe.cls = .ref C ∧ oe.dict = none ∧ oe.data = .fields vs ∧ vs[1]? = some .none
section
variable {P : Program} {w : World} {A : Around} {E : Value → Shared → Prop} {R : Result → Shared → Prop} {s : Shared} {K : Frag} {mg mb : Str → Option Value} {C fI : Addr} {x0 : Str}
end
end ErrX
end PySem
namespace L2
open PySem PySem.Spec PyProof.Rows
section
variable {X : Cx} {C fI : Addr} {x : Str}
end
end L2
set_option Elab.async false
set_option maxRecDepth 100000
set_option autoImplicit false
set_option linter.unusedVariables false
set_option maxHeartbeats 4000000
namespace L2
open PySem PySem.Spec PyProof.Rows
section
variable {X : Cx}
end
end L2
namespace DL
open PySem L2 PySem.Spec PyProof.Rows PySem.ErrX PySem.W
variable [TAB : TabList]
variable [EFF : Eff]
set_option linter.unusedSectionVars false
section
variable {X : Cx} {W : WX} {es : List Expr} {pos : Pos} {fa : Env → M AR}
end
section
variable {X : Cx} {W : WX}
end
section
variable {X : Cx} {W : WX}
end
section
variable {X : Cx} {a : Addr} {oe : Obj} {c c' : Nat} {C C' : Addr} {d : Option Addr} {pn : List (Addr × Obj)} {x : Str} {e : Expr} {f : Env → M D} {p p2 pos : Pos}
end
structure ErrText0 (st : Stmt) : Prop where
  ex : ∃ (t : Str) (j : Nat) (p1 q0 q1 q2 q3 q4 q5 : Pos), defArgs st = iA0 p1 ∧ defBody st = iB0 t j q0 q1 q2 q3 q4 q5 ∧ defScope st = iS0 ∧
    (∀ (qual : Str) (L fI cda cc : Addr), ∃ pl : Sem Bool, eval (.Call (.Attribute (.Call (.Name "super" q0) [] [] q1) "__init__" q2) [.Constant (.str t) j q3] [] q4) (ksEnv qual iS0 L fI (.ref cda) cc) = (do
      let ov ← attributeBase (.Call (.Name "super" q0) [] [] q1) "__init__" (ksEnv qual iS0 L fI (.ref cda) cc) (eval (.Call (.Name "super" q0) [] [] q1) (ksEnv qual iS0 L fI (.ref cda) cc))
      standAt q2.atName
      let (fu, first) ← holding [ov] (getMethod ov "__init__" pl)
      callWith q4 fu first (backTo q4 (starEach [.Constant (.str t) j q3] (ksEnv qual iS0 L fI (.ref cda) cc))) []))
structure ErrAt0 (P : Program) (K : PySem.W.Frag) (mg : Str → Option Value) (c : Nat) (C fI : Addr) : Prop where
  at_ : ErrC K c C
  tx : ErrTxt0 P K mg (errName c) C fI
  ic : PySem.W.isClsIn K C = true
theorem ErrAt0.uniq {P : Program} {K : PySem.W.Frag} {mg : Str → Option Value} {c : Nat} {C C2 fI : Addr} (h : ErrAt0 P K mg c C fI) (h2 : ErrC K c C2) : C2 = C := by
  have := h.at_.symm.trans h2
  cases this
  rfl
end DL
set_option Elab.async false
set_option maxRecDepth 100000
set_option autoImplicit false
set_option linter.unusedVariables false
set_option maxHeartbeats 4000000
namespace DL
open PySem L2 PySem.Spec PyProof.Rows
variable [TAB : TabList]
variable [EFF : Eff]
set_option linter.unusedSectionVars false
section
variable {X : Cx} {W : WX} {pos : Pos}
end
end DL
set_option Elab.async false
set_option maxRecDepth 100000
set_option autoImplicit false
set_option linter.unusedVariables false
set_option maxHeartbeats 4000000
namespace DL
open PySem L2 PySem.Spec PyProof.Rows
variable [TAB : TabList]
variable [EFF : Eff]
set_option linter.unusedSectionVars false
section
variable {X : Cx} {a b e : Expr} {pos p p2 : Pos} {c : Nat} {C g : Addr} {k : Nat} {fd : FuncData} {ps : List Str} {f h : Env → M D} {fa : Env → M (List D)} {R : List D → M D}
end
end DL
set_option Elab.async false
set_option maxRecDepth 100000
set_option autoImplicit false
set_option linter.unusedVariables false
set_option maxHeartbeats 4000000
namespace DL
open PySem L2 PySem.Spec PyProof.Rows
variable [TAB : TabList]
variable [EFF : Eff]
set_option linter.unusedSectionVars false
section
variable {X : Cx} {a b e : Expr} {pos p p2 : Pos} {c : Nat} {C g : Addr} {k : Nat} {fd : FuncData} {ps : List Str} {f h : Env → M D} {fa : Env → M (List D)} {R : List D → M D}
theorem IsiAt.first {K : PySem.W.Frag} {C : Addr} (I : IsiAt K C) {t : String} (h : t ∈ tys) : PySem.W.notFirst K C (.type t) = true := by
  have sub : PySem.W.subIn K (.type t) (.ref C) = some false := by
    simp only [tys, List.mem_cons, List.not_mem_nil, or_false] at h
    rcases h with rfl | rfl | rfl | rfl | rfl | rfl | rfl
    · exact I.k0
    · exact I.k1
    · exact I.k2
    · exact I.k3
    · exact I.k4
    · exact I.k5
    · exact I.k6
  unfold PySem.W.notFirst
  rw [sub]
  simp
end
end DL
set_option Elab.async false
set_option maxRecDepth 100000
set_option autoImplicit false
set_option linter.unusedVariables false
set_option maxHeartbeats 4000000
namespace DL
open PySem L2 PySem.Spec PyProof.Rows
variable [TAB : TabList]
variable [EFF : Eff]
set_option linter.unusedSectionVars false
section
variable {X : Cx} {x n : Str} {cw : Value} {i : Nat} {body suite : List Stmt} {b₀ : Stmt} {np pos pos' : Pos} {cs : List Nat} {Fb : Env2 → M OutE} {Fh : Addr → Option Addr → Nat → Env2 → M Out}
end
end DL
set_option Elab.async false
set_option maxRecDepth 100000
set_option autoImplicit false
set_option linter.unusedVariables false
set_option maxHeartbeats 4000000
namespace DL
open PySem L2 PySem.Spec PyProof.Rows
variable [TAB : TabList]
variable [EFF : Eff]
set_option linter.unusedSectionVars false
section
variable {X : Cx} {W : WX} {es : List Expr} {pos : Pos} {fa : Env → M AR}
end
theorem RpL.set1 {K : PySem.W.Frag} {G : Hp} {v : V} {d : D} (r : Rp K G v d) : ∀ {vs : List V} {ds : List D} (j : Nat), RpL K G vs ds → RpL K G (vs.set j v) (ds.set j d)
  | _, _, _, .nil => .nil
  | _, _, 0, .cons _ q => .cons r q
  | _, _, j + 1, .cons p q => .cons p (RpL.set1 r j q)
section
variable {X : Cx} {W : WX} {o i e : Expr} {fo fi f : Env → M D} {pos p3 : Pos}
end
section
variable {X : Cx} {W : WX} {a b : Expr} {pos : Pos} {c : Nat} {C g : Addr} {k : Nat} {fd : FuncData} {ps : List Str} {f h : Env → M ER} {R : List D → M D}
end
section
variable {X : Cx} {W : WX} {a b c0 : Expr} {pos : Pos} {c : Nat} {C g : Addr} {k : Nat} {fd : FuncData} {ps : List Str} {f h : Env → M ER} {R : List D → M D} {r : R2} {hh : D → D → M D} {op : CmpOp}
end
end DL
set_option Elab.async false
set_option maxRecDepth 100000
set_option autoImplicit false
set_option linter.unusedVariables false
set_option maxHeartbeats 4000000
namespace DL
open PySem L2 PySem.Spec PyProof.Rows
variable [TAB : TabList]
variable [EFF : Eff]
set_option linter.unusedSectionVars false
section
variable {X : Cx} {CX : CXT} {C g : Addr} {n : Nat} {sp : Sp} {E : XK}
def rBinO (C : Addr) (sp : Sp) (E : XK) : R2 := fun x y H Q => ∃ a dx vs b dy ws, x = .ref a ∧ y = .ref b ∧ SlX.Slt H a C dx vs ∧ SlX.Slt H b C dy ws ∧ sp [x, y] H Q E
theorem op_binO {op : Operator} (hc : PySem.W.selfFirst X.K C = true) (hs : PySem.W.findIn X.K (.ref C) (PySem.dunder op.info.2) = some (some (.ref g))) (hf : PySem.W.isFn X.K (.ref g) = true)
    (F : FnR X.prog X.w X.K X.mg X.base CX n g sp) (hr : Room n X.A) (hx : Passes CX X E) : OpR X (binaryOp op) (rBinO C sp E) := by
  intro pins s σ H x y v u Q I rx ry ⟨a, dx, vs, b, dy, ws, ex, ey, ha, hb, q⟩
  subst ex; subst ey
  cases (show v = Value.ref a from rx)
  cases (show u = Value.ref b from ry)
  obtain ⟨sl, od, _, J, _⟩ := SlX.slt_inst I ha
  obtain ⟨sl', od', _, J', _⟩ := SlX.slt_inst I hb
  obtain ⟨m, hF⟩ := I.fr
  refine PySem.W.binop_K hF I.ok.mod.kin J J'.type hc hs hf ?_
  refine wpAny_mono (wpAny_call (run_fnR (us := [.ref a, .ref b]) (vs := [.ref a, .ref b]) F hr hx I (.cons rfl (.cons rfl .nil)) q)) (fun w s' ⟨z', H', I', rz, qz⟩ => SlX.cmpback rz ⟨z', H', I', rz, qz⟩) fun _ _ x => x
def rInvO (C : Addr) (sp : Sp) (E : XK) : V → Hp → VK → Prop := fun x H Q => ∃ a dx vs, x = .ref a ∧ SlX.Slt H a C dx vs ∧ sp [x] H Q E
theorem un_invO (hs : PySem.W.findIn X.K (.ref C) "__invert__" = some (some (.ref g))) (hf : PySem.W.isFn X.K (.ref g) = true)
    (F : FnR X.prog X.w X.K X.mg X.base CX n g sp) (hr : Room n X.A) (hx : Passes CX X E) : UnR X (unaryOp .Invert) (rInvO C sp E) := by
  intro pins s σ H x v Q I rx ⟨a, dx, vs, ex, ha, q⟩
  subst ex
  cases (show v = Value.ref a from rx)
  obtain ⟨sl, od, _, J, _⟩ := SlX.slt_inst I ha
  obtain ⟨m, hF⟩ := I.fr
  exact PySem.W.ksp_inv hF I.ok.mod.kin J hs hf (wpAny_call (run_fnR (us := [.ref a]) (vs := [.ref a]) F hr hx I (.cons rfl .nil) q))
def rInO (C : Addr) (sp : Sp) (E : XK) (neg : Bool) : R2 := fun x y H Q => ∃ b dx vs, y = .ref b ∧ SlX.Slt H b C dx vs ∧ sp [y, x] H (fun z H' => ∃ t, z = .bl t ∧ Q (.bl (if neg then !t else t)) H') E
theorem op_inO (neg : Bool) (hs : PySem.W.findIn X.K (.ref C) "__contains__" = some (some (.ref g))) (hf : PySem.W.isFn X.K (.ref g) = true)
    (F : FnR X.prog X.w X.K X.mg X.base CX n g sp) (hr : Room n X.A) (hx : Passes CX X E) : OpR X (compareOp (if neg then .NotIn else .In)) (rInO C sp E neg) := by
  intro pins s σ H x y v u Q I rx ry ⟨b, dx, vs, ey, hb, q⟩
  subst ey
  cases (show u = Value.ref b from ry)
  obtain ⟨sl, od, _, J, _⟩ := SlX.slt_inst I hb
  obtain ⟨m, hF⟩ := I.fr
  have hc := wpAny_call (run_fnR (us := [.ref b, v]) (vs := [.ref b, x]) F hr hx I (.cons rfl (.cons rx .nil)) q)
  cases neg with
  | false =>
    refine PySem.W.in_K hF I.ok.mod.kin J hs hf (wpAny_mono hc (fun w s' ⟨z', H', I', rz, t, et, qz⟩ => ?_) fun _ _ x => x)
    subst et
    cases (show w = Value.bool t from rz)
    exact wpAny_pure ⟨.bl t, H', I', rfl, qz⟩
  | true =>
    refine PySem.W.notIn_K hF I.ok.mod.kin J hs hf (wpAny_mono hc (fun w s' ⟨z', H', I', rz, t, et, qz⟩ => ?_) fun _ _ x => x)
    subst et
    cases (show w = Value.bool t from rz)
    exact wpAny_pure ⟨.bl (!t), H', I', rfl, qz⟩
end
section
variable {X : Cx} {a b : Expr} {pos : Pos} {c : Nat} {C g : Addr} {k : Nat} {fd : FuncData} {ps : List Str} {f h : Env → M D} {R : List D → M D}
theorem snd_binO {K : PySem.W.Frag} {mg : Str → Option Value} (T : ClsAt K mg c C) : SndR K (rBinO C (fun vs H Q E => spD K 2 R (vs ++ []) H Q E) E0) (fun x y => M.guard (isC c x && isC c y) (R [x, y])) := by
  intro G H b x y dx dy d b' Q rx ry fz ob e q
  obtain ⟨hc, e3⟩ := M.guard_some e
  rw [Bool.and_eq_true] at hc
  obtain ⟨a, ax, vs, fs, rfl, rfl, hs, rl⟩ := isC_rp T hc.1 rx
  obtain ⟨a2, ax2, vs2, fs2, rfl, rfl, hs2, rl2⟩ := isC_rp T hc.2 ry
  exact ⟨a, ax, _, a2, ax2, _, rfl, rfl, slt_mono fz hs, slt_mono fz hs2, G, b, [.obj c fs, .obj c fs2], d, b', .cons rx (.cons ry .nil), rfl, fz, ob, e3, q⟩
theorem d_binO {op : Operator} {nm : Str} (hn : PySem.dunder op.info.2 = nm) (T : ClsAt X.K X.mg c C) (sf : PySem.W.selfFirst X.K C = true) (m : Meth X.K C nm g) (F : FnOk X.prog X.w X.K X.mg X.base CX0 k g fd ps (spD X.K 2 R)) (bd : Binds X.K fd ps []) (hr : Room k X.A) (ha : DE X a f) (hb : DE X b h) :
    DE X (.BinOp a op b pos) (e2 (eqC c R) f h) := d_op (op_binO (E := E0) sf (by rw [hn]; exact m.at_) m.fn (raw0 F bd) hr pass0) (snd_binO T) ha hb
theorem d_invO (T : ClsAt X.K X.mg c C) (m : Meth X.K C "__invert__" g) (F : FnOk X.prog X.w X.K X.mg X.base CX0 k g fd ps (spD X.K 1 R)) (bd : Binds X.K fd ps []) (hr : Room k X.A) (ha : DE X a f) :
    DE X (.UnaryOp .Invert a pos) (e1 (propD c R) f) := by
  refine PEimp (pe_un (un_invO (E := E0) m.at_ m.fn (raw0 F bd) hr pass0) ha) ?_
  rintro σ H Q ⟨ρ, G, b, d, b', rs, fz, ob, e, q⟩
  obtain ⟨x, b1, e1, e2⟩ := M.bind_some e
  obtain ⟨hc, e3⟩ := M.guard_some e2
  refine ⟨ρ, G, b, x, b1, rs, fz, ob, e1, fun v G1 H1 n1 r => ?_⟩
  obtain ⟨a, dx, vs, fs, rfl, rfl, hs, rl⟩ := isC_rp T hc r
  exact ⟨a, dx, _, rfl, slt_mono n1.fz hs, G1, b1, [.obj c fs], d, b', .cons r .nil, rfl, n1.fz, n1.bag, e3, fun v G2 H2 n2 r2 => q v G2 H2 (n1.trans n2) r2⟩
def inO (neg : Bool) (c : Nat) (R : List D → M D) (x y : D) : M D := M.guard (isC c y) (M.bind (R [y, x]) fun r => M.bind (asB r) fun t => M.ret (.bl (if neg then !t else t)))
theorem snd_inO {K : PySem.W.Frag} {mg : Str → Option Value} (neg : Bool) (T : ClsAt K mg c C) : SndR K (rInO C (fun vs H Q E => spD K 2 R (vs ++ []) H Q E) E0 neg) (inO neg c R) := by
  intro G H b x y dx dy d b' Q rx ry fz ob e q
  obtain ⟨hc, e3⟩ := M.guard_some e
  obtain ⟨z, b1, e4, e5⟩ := M.bind_some e3
  obtain ⟨t, b2, e6, e7⟩ := M.bind_some e5
  obtain ⟨rfl, rfl⟩ := asB_some e6
  cases e7
  obtain ⟨a, ax, vs, fs, rfl, rfl, hs, rl⟩ := isC_rp T hc ry
  refine ⟨a, ax, _, rfl, slt_mono fz hs, G, b, [.obj c fs, dx], .bl t, _, .cons ry (.cons rx .nil), rfl, fz, ob, e4, fun v G2 H2 n2 r2 => ?_⟩
  cases r2
  exact ⟨t, rfl, q _ G2 H2 n2 (.bl _)⟩
theorem d_inO (T : ClsAt X.K X.mg c C) (m : Meth X.K C "__contains__" g) (F : FnOk X.prog X.w X.K X.mg X.base CX0 k g fd ps (spD X.K 2 R)) (bd : Binds X.K fd ps []) (hr : Room k X.A) (ha : DE X a f) (hb : DE X b h) (hm : behindInMarks .In b = false := by rfl) :
    DE X (.Compare a [.In] [b] pos) (e2 (inO false c R) f h) := d_cmp (op_inO (E := E0) false m.at_ m.fn (raw0 F bd) hr pass0) (snd_inO false T) ha hb hm
theorem t_inO (T : ClsAt X.K X.mg c C) (m : Meth X.K C "__contains__" g) (F : FnOk X.prog X.w X.K X.mg X.base CX0 k g fd ps (spD X.K 2 R)) (bd : Binds X.K fd ps []) (hr : Room k X.A) (ha : DE X a f) (hb : DE X b h) (hm : behindInMarks .In b = false := by rfl) :
    DT X (.Compare a [.In] [b] pos) (t2 (inO false c R) f h) := t_cmp (op_inO (E := E0) false m.at_ m.fn (raw0 F bd) hr pass0) (snd_inO false T) ha hb hm
theorem t_ninO (T : ClsAt X.K X.mg c C) (m : Meth X.K C "__contains__" g) (F : FnOk X.prog X.w X.K X.mg X.base CX0 k g fd ps (spD X.K 2 R)) (bd : Binds X.K fd ps []) (hr : Room k X.A) (ha : DE X a f) (hb : DE X b h) (hm : behindInMarks .NotIn b = false := by rfl) :
    DT X (.Compare a [.NotIn] [b] pos) (t2 (inO true c R) f h) := t_cmp (op_inO (E := E0) true m.at_ m.fn (raw0 F bd) hr pass0) (snd_inO true T) ha hb hm
def iOne (ms : List Nat) (f : Env → M D) : Env2 → M (List D) := fun ρ => M.bind (f (view ms ρ)) fun d => M.ret [d]
theorem i_one {f0 : Str} {p0 : Addr} {x : Str} {e : Expr} {q0 pn0 : Pos} (ms : List Nat) (cl : SlX.SCls X.K C) (t0 : SlX.Slot1 X.K C f0 p0 0) (hN : X.N[0]? = some x) (hv : Vis X.env.scope x)
    (he : DE X e f) (hd : (x == ("__debug__" : Str)) = false := by decide) (hcd : (x == ("__classdict__" : Str)) = false := by decide)
    (hs : swapsWith e (some (.Attribute (.Name x pn0) f0 q0)) pos.line X.env = pure false := by rfl) :
    DI0 X C [.Assign [.Attribute (.Name x pn0) f0 q0] e pos] (iOne ms f) := by
  refine PSsimp (pss_one (SlX.ps_sl (pe_var hN hv hd hcd) he hs)) ?_
  rintro Dn σ H ⟨E, ρ, G, b, fs, b', x, dx, I, k1, k2, k3, k4, k5, k6, k7, k8, e, q⟩
  obtain ⟨d, b1, e1, e2⟩ := M.bind_some e
  cases e2
  refine ⟨_, _, b, d, _, I.rs ms, I.gp2 ms, I.gpb ms, e1, fun v G1 H1 n1 r => ?_⟩
  obtain ⟨G2, I2, r2⟩ := I.after n1 r
  have hsf := selfOf_some k8
  obtain ⟨sv, hsv, hrv⟩ := I.val 0 _ hsf
  cases hrv
  have hx := I2.keep x _ k1 k4 (fun _ k z => by rw [k6] at z; cases z)
  refine ⟨.ref x, hsv, x, C, dx, p0, [], 0, rfl, .inl ⟨hx, rfl⟩, cl, t0, ?_⟩
  exact q σ [v] G2 H1 I2.nxt (.cons r2 .nil)
end
theorem q_iOne (ms : List Nat) (f : Env → M D) (ρ : Env2) : iOne ms f ρ = bnd (f (view ms ρ)) fun d => M.ret [d] := rfl
theorem q_inO (neg : Bool) (c : Nat) (R : List D → M D) (x : D) (fs : List D) : inO neg c R x (.obj c fs) = bnd (R [.obj c fs, x]) fun r => bnd (asB r) fun t => M.ret (.bl (if neg then !t else t)) := M.guard_of (by show (c == c) = true; exact beq_self_eq_true c)
end DL
set_option Elab.async false
set_option maxRecDepth 100000
set_option autoImplicit false
set_option linter.unusedVariables false
set_option maxHeartbeats 4000000
namespace DL
open PySem L2 PySem.Spec PyProof.Rows
variable [TAB : TabList]
variable [EFF : Eff]
set_option linter.unusedSectionVars false
def setAtK (ρ : Env2) (j : Nat) (d : D) : D → Option (Option Slot) → M Out
  | .int i, some (some (.own xs)) => M.guard (d.flat && (decide (0 ≤ i) && decide (i < (xs.length : Int)))) (M.ret (.nx (ρ.set j (some (.own (xs.set i.toNat d))))))
  | _, _ => M.fail
def setAtM (j : Nat) (ms : List Nat) (fv fi : DL.Env → M D) (ρ : Env2) : M Out := M.bind (fv (view ms ρ)) fun d => M.bind (fi (view ms (keepIf d.flat ms ρ))) fun y => setAtK (keepIf d.flat ms ρ) j d y (keepIf d.flat ms ρ)[j]?
theorem q_setAt (j : Nat) (ms : List Nat) (fv fi : DL.Env → M D) (ρ2 : Env2) : setAtM j ms fv fi ρ2 = bnd (fv (view ms ρ2)) fun d => bnd (fi (view ms (keepIf d.flat ms ρ2))) fun y => setAtK (keepIf d.flat ms ρ2) j d y (keepIf d.flat ms ρ2)[j]? := rfl
theorem setAt_own {ρ : Env2} {j : Nat} {xs : List D} {i : Nat} {d : D} (hd : d.flat = true) (h : i < xs.length) : setAtK ρ j d (.int (i : Int)) (some (some (.own xs))) = M.ret (.nx (ρ.set j (some (.own (xs.set i d))))) := by
  show M.guard _ _ = _
  rw [M.guard_of (by rw [hd, decide_eq_true (Int.natCast_nonneg i), decide_eq_true (show (i : Int) < (xs.length : Int) by omega)]; rfl), Int.toNat_natCast]
theorem s_setAt {X : Cx} (j : Nat) (ms : List Nat) {x : Str} {ie e : Expr} {fv fi : DL.Env → M D} {p1 p3 pos : Pos} (hi : DE X ie fi) (he : DE X e fv) (hN : X.N[j]? = some x := by rfl) (hv : Vis X.env.scope x := by first | exact Or.inl rfl | exact Or.inr (Or.inl rfl) | exact Or.inr (Or.inr rfl))
    (hd : (x == ("__debug__" : Str)) = false := by decide) (hcd : (x == ("__classdict__" : Str)) = false := by decide)
    (ha : ∀ v, assign (.Subscript (.Name x p1) ie p3) X.env v = (do
      let ov ← holding [v] (eval (.Name x p1) X.env)
      let iv ← holding [v, ov] (eval ie X.env)
      standAt p3
      holding [v, ov, iv] (setItem ov iv v)
      release [v, ov, iv] []) := by intro _; rfl)
    (hs : swapsWithSole [.Subscript (.Name x p1) ie p3] e pos.line X.env = pure false := by rfl) (hw : swappedStores [.Subscript (.Name x p1) ie p3] e X.env = pure none := by rfl) :
    DS X (.Assign [.Subscript (.Name x p1) ie p3] e pos) (setAtM j ms fv fi) := by
  refine PSimp (ps_asg he (pg_sub (pe_var hN hv hd hcd) hi set_list ha) hs hw) ?_
  rintro Dn σ H ⟨E, ρ, G, b, o, b', I, e0, q⟩
  obtain ⟨d, b1, e1, e2⟩ := M.bind_some e0
  obtain ⟨y, b2, e3, e4⟩ := M.bind_some e2
  refine ⟨_, _, b, d, b1, I.rs ms, I.gp2 ms, I.gpb ms, e1, fun v G1 H1 n1 r1 => ?_⟩
  obtain ⟨G2, I2, r2⟩ := I.after n1 r1
  generalize hρ : keepIf d.flat ms ρ = ρ1 at I2 e3 e4
  cases y with
  | int i =>
    cases ej : ρ1[j]? with
    | none => rw [ej] at e4; cases e4
    | some s =>
      cases s with
      | none => rw [ej] at e4; cases e4
      | some s =>
        cases s with
        | val d => rw [ej] at e4; cases e4
        | tr o => rw [ej] at e4; cases e4
        | own xs =>
          rw [ej] at e4
          obtain ⟨hz, e5⟩ := M.guard_some e4
          cases e5
          rw [Bool.and_eq_true, Bool.and_eq_true, decide_eq_true_iff, decide_eq_true_iff] at hz
          obtain ⟨hf, hz0, hz1⟩ := hz
          obtain ⟨p, vs, h1, h2, h3, h4, h5, h6⟩ := I2.ownL ej
          refine ⟨_, h1, ?_⟩
          refine ⟨_, _, b1, _, _, I2.rs ms, I2.gp2 ms, I2.gpb ms, e3, fun v3 G3 H3 n3 r3 => ?_⟩
          obtain ⟨G4, I4, r4⟩ := I2.after n3 r3
          cases r4
          have I4 : SI X.K E σ ρ1 G4 H3 _ := I4
          obtain ⟨p', vs', f1, f2, f3, f4, f5, f6⟩ := I4.ownL ej
          rw [h1] at f1
          cases f1
          refine ⟨p, vs', i, i.toNat, rfl, rfl, f4, ?_, ?_⟩
          · unfold ixN
            rw [if_pos hz0, if_pos (by rw [f5.length]; omega)]
          · exact q σ G4 _ (I4.mut ej h1 (RpL.set1 (r2.flat_any hf) i.toNat f5))
  | _ => cases e4
end DL
set_option Elab.async false
set_option maxRecDepth 100000
set_option autoImplicit false
set_option linter.unusedVariables false
set_option maxHeartbeats 4000000
namespace DL
open PySem L2 PySem.Spec PyProof.Rows
variable [TAB : TabList]
variable [EFF : Eff]
set_option linter.unusedSectionVars false
def dropVs {α : Type} (ks : List L2.Key) (xs : List α) (k : L2.Key) : List α := ((ks.zip xs).filter fun p => decide (p.1 ≠ k)).map Prod.snd
theorem dropVs_pos {α : Type} {a k : L2.Key} (h : a ≠ k) (ks : List L2.Key) (x : α) (xs : List α) : dropVs (a :: ks) (x :: xs) k = x :: dropVs ks xs k := by
  unfold dropVs
  rw [List.zip_cons_cons, List.filter_cons_of_pos (by simpa using h)]
  rfl
theorem dropVs_neg {α : Type} {a k : L2.Key} (h : a = k) (ks : List L2.Key) (x : α) (xs : List α) : dropVs (a :: ks) (x :: xs) k = dropVs ks xs k := by
  unfold dropVs
  rw [List.zip_cons_cons, List.filter_cons_of_neg (by simpa using h)]
theorem OwL.dropVs {K : PySem.W.Frag} {G H : Hp} (k : L2.Key) : ∀ {ks : List L2.Key} {vs : List V} {os : List O} {fp : List Addr}, ks.length = vs.length → OwL K G H vs os fp → ∃ fq, OwL K G H (DL.dropVs ks vs k) (DL.dropVs ks os k) fq ∧ fq.Sublist fp
  | [], [], os, fp, _, r => by
    cases r
    exact ⟨[], .nil, List.Sublist.refl _⟩
  | a :: ks, v :: vs, os, fp, h, r => by
    cases r with
    | @cons v1 vs1 x1 xs1 f1 f2 r1 r2 =>
      obtain ⟨fq, h1, h2⟩ := OwL.dropVs k (Nat.succ.inj h) r2
      by_cases e : a = k
      · rw [dropVs_neg e, dropVs_neg e]
        exact ⟨fq, h1, h2.trans (List.sublist_append_right _ _)⟩
      · rw [dropVs_pos e, dropVs_pos e]
        exact ⟨f1 ++ fq, .cons r1 h1, List.Sublist.append (List.Sublist.refl _) h2⟩
section
variable {X : Cx} {a e o : Expr} {es : List Expr} {pos apos : Pos} {c : Nat} {C g p : Addr} {m : Str} {k n : Nat} {fd : FuncData} {ps : List Str} {f : DL.Env → M D} {fa : DL.Env → M (List D)} {R : List D → M D}
end
end DL
set_option Elab.async false
set_option maxRecDepth 100000
set_option autoImplicit false
set_option linter.unusedVariables false
set_option maxHeartbeats 4000000
namespace DL
open PySem L2 PySem.Spec PyProof.Rows
variable [TAB : TabList]
variable [EFF : Eff]
set_option linter.unusedSectionVars false
section
variable {prog : Program} {w : World} {A : Around} {E : Value → Shared → Prop} {s : Shared} {l : Addr} {xs : Array (Int × Tok)}
theorem iter_intTup {Q : Value → Shared → Prop} (hl : s.heap.IsTuple l (intItems xs))
    (h : ∀ s₂ : Shared, s₂ = { s with heap := s.heap.push { cls := .type "tuple_iterator", data := .fields #[.ref l, .int 0 0] } } →
      (s₂.heap.IsTupleIter s.heap.objs.size l 0 ∧ s₂.heap.IsTuple l (intItems xs)) → (∀ b ∈ [s.heap.objs.size, l], b < s₂.heap.objs.size) → l ≠ s.heap.objs.size → Q (.ref s.heap.objs.size) s₂) :
    wpAny (model prog w) A (pyIter (.ref l)) Q E s := by
  have hlt : l < s.heap.objs.size := by obtain ⟨_, e, _⟩ := hl; exact Heap.lt_size e
  refine wpAny_pyIter_tuple hl (h _ rfl ⟨⟨_, Heap.get?_push_size _ rfl, rfl, rfl⟩, hl.push _⟩ (fun b hb => ?_) (Nat.ne_of_lt hlt))
  show b < (s.heap.push _).objs.size
  rw [Heap.size_push]
  rcases List.mem_cons.mp hb with rfl | hb
  · exact Nat.lt_succ_self _
  · rcases List.mem_cons.mp hb with rfl | hb
    · exact Nat.lt_succ_of_lt hlt
    · cases hb
theorem tup_kept {h' : Heap} (hk : ∀ b o, b ∉ [s.heap.objs.size] → (s.heap.push { cls := .type "tuple_iterator", data := .fields #[.ref l, .int 0 0] }).get? b = some o → h'.get? b = some o) :
    ∀ b o, s.heap.get? b = some o → h'.get? b = some o := fun b o e => by
  refine hk b o (fun hm => ?_) (Heap.get?_push_of_some _ e)
  rcases List.mem_cons.mp hm with e1 | hm
  · exact absurd (e1 ▸ Heap.lt_size e) (Nat.lt_irrefl _)
  · cases hm
theorem max_intTup {Q : Value → Shared → Prop} (hh : A.handled = none) (hl : s.heap.IsTuple l (intItems xs)) (hne : 0 < xs.size)
    (h : ∀ v h' tk, (intItems xs)[argBest (fun i j => decide (numAt xs i > numAt xs j)) (xs.size - 1)]? = some v → (∀ b o, s.heap.get? b = some o → h'.get? b = some o) → Q v { s with heap := h', toks := tk }) :
    wpAny (model prog w) A (call (.builtin "max") [.ref l]) Q E s := by
  refine call_max_walk (iter_intTup hl fun s₂ e st hfp hlI => ?_)
  subst e
  refine ⟨_, _, _, _, _, _, _, rfl, Walks.tuple (A := A.in1) hh _ l hlI (intItems xs), st, hfp, by simpa [intItems] using hne, CmpOf.ints_gt (numAt xs) (fun _ _ => intItems_at), fun v h' tk hP hk => ?_⟩
  exact h v h' tk (by simpa [intItems] using hP) (tup_kept hk)
end
section
variable {prog : Program} {w : World} {A : Around} {E : Value → Shared → Prop} {s : Shared} {l : Addr} {its : List Value} {ns : List Int} {Q : Value → Shared → Prop}
theorem max_rawT (hh : A.handled = none) (hl : s.heap.IsTuple l its.toArray) (hi : IntsAre its ns) (hne : 0 < ns.length)
    (h : ∀ h' tk M t', (∀ b o, s.heap.get? b = some o → h'.get? b = some o) → M ∈ ns → (∀ a, a ∈ ns → a ≤ M) → Q (.int M t') { s with heap := h', toks := tk }) : wpAny (model prog w) A (call (.builtin "max") [.ref l]) Q E s := by
  obtain ⟨xs, e⟩ := hi.allInts.items
  have hn : numsOf (intItems xs).toList = ns := by rw [← e]; exact hi.numsOf
  rw [nums_intItems] at hn
  subst hn
  rw [e] at hl
  have hsz : 0 < xs.size := by simpa using hne
  refine max_intTup hh hl hsz fun v h' tk hv hk => ?_
  obtain ⟨t, rfl⟩ := intItems_at hv
  obtain ⟨h1, h2⟩ := argBest_gt (numAt xs) (xs.size - 1)
  refine h h' tk _ t hk ?_ fun a ha => ?_
  · rw [numAt_eq]; exact PySem.getD_mem (by rw [List.length_map, Array.length_toList]; omega)
  · obtain ⟨j, hj, rfl⟩ := mem_getD ha
    rw [List.length_map, Array.length_toList] at hj
    rw [← numAt_eq]; exact h2 j (by omega)
end
section
variable {X : Cx}
def rMaxT (K : PySem.W.Frag) : List V → Hp → VK → Prop := fun vs H Q => ∃ (a : Addr) (ns : List Int), vs = [V.ref a] ∧ SqT K H a (ns.map V.int) ∧ 0 < ns.length ∧ ∀ m, m ∈ ns → (∀ y, y ∈ ns → y ≤ m) → Q (.int m) H
theorem cr_maxT (hc : X.calm = true) : CallR X (.builtin "max") (rMaxT X.K) := by
  intro pins s σ H vs us Q I r h
  obtain ⟨a, ns, rfl, hs, hne, q⟩ := h
  obtain ⟨its, rv, hl, _⟩ := I.tuple hs
  rw [Vals.ref1 r]
  exact max_rawT (I.ok.hd hc) hl rv.ints hne fun h' tk m t' hk h1 h2 => ⟨.int _, H, I.kept hk, ⟨_, rfl⟩, q m h1 h2⟩
def maxG : List D → M D
  | [.tup xs] => match intsD xs with
    | some (i :: r) => M.ret (.int (maxL (i :: r)))
    | _ => M.fail
  | ds => maxF ds
theorem snd_maxG : SndC X.K (fun xs H Q => rMaxT X.K xs H Q ∨ ((∃ i j, xs = [.int i, .int j] ∧ Q (.int (if j > i then j else i)) H) ∨ rMax X.K xs H Q)) maxG := by
  intro G H b vs ds d b' Q r fz ob e q
  unfold maxG at e
  split at e
  · rename_i xs
    obtain ⟨v, rfl, r1⟩ := r.one
    cases ei : intsD xs with
    | none => rw [ei] at e; cases e
    | some is =>
      rw [ei] at e
      cases is with
      | nil => cases e
      | cons i r' =>
        cases e
        cases r1 with
        | tup h1 h2 =>
          have hv := intsD_of h2 ei
          subst hv
          have := foldl_max r' i
          refine .inl ⟨_, _, rfl, SameF.sqt fz h1, by simp, fun m hm hle => ?_⟩
          have e : m = maxL (i :: r') := Int.le_antisymm (this.2 m hm) (hle _ this.1)
          rw [e]
          exact q _ G H (Nxt.refl fz ob) (.int _)
  · exact .inr (snd_max G H b vs _ d b' Q r fz ob e q)
theorem d_maxG {e : Expr} {es : List Expr} {fa : DL.Env → M (List D)} {p pos : Pos} (hc : X.calm = true) (hg : Gl X "max") (hm : X.mg "max" = none) (ha : DA X (e :: es) fa) (he : starEach (e :: es) X.env = (false, eval e X.env) :: starEach es X.env := by rfl) (hpl : (backTo pos (starEach es X.env)).any (·.1) = false := by rfl) : DE X (.Call (.Name "max" p) (e :: es) [] pos) (eCall maxG fa) :=
  d_callB ((cr_maxT hc).or ((call_max2 hc).or (cr_max hc))) snd_maxG hg hm (by decide +kernel) ha (he := he) (hpl := hpl)
end
end DL
set_option Elab.async false
set_option maxRecDepth 100000
set_option autoImplicit false
set_option linter.unusedVariables false
set_option maxHeartbeats 4000000
namespace DL
open PySem L2 PySem.Spec PyProof.Rows
variable [TAB : TabList]
variable [EFF : Eff]
set_option linter.unusedSectionVars false
section
variable {X : Cx} {e : Expr} {pos : Pos} {f : DL.Env → M D} {c k : Nat} {C g : Addr} {fld : Str} {fd : FuncData} {ps : List Str} {Fl : List D → M (List D)}
theorem dn_prop {p : Addr} (T : ClsAt X.K X.mg c C) (t : PropAt X.K C fld p g) (F : FnOk X.prog X.w X.K X.mg X.base CX0 k g fd ps (spN X.K 1 Fl)) (hb : Binds X.K fd ps []) (hr : Room (k + 1) X.A) (he : DE X e f) (hab : attributeBase e fld X.env (eval e X.env) = eval e X.env := by rfl) :
    DN X (.Attribute e fld pos) (n1M (propN c Fl) f) := by
  refine PEimp (SlX.pe_propSl (E := E0) he T.cl t.at_ t.get t.tk t.rc (raw0 F hb) hr (fun _ _ _ _ h => h) hab) ?_
  rintro σ H Q ⟨ρ, G, b, d, b', rs, fz, ob, e, q⟩
  obtain ⟨x, b1, e1, e2⟩ := M.bind_some e
  obtain ⟨hc, e3⟩ := M.guard_some e2
  refine ⟨ρ, G, b, x, b1, rs, fz, ob, e1, fun v G1 H1 n1 r => ?_⟩
  obtain ⟨a, dx, vs, fs, rfl, rfl, hs, rl⟩ := isC_rp T hc r
  exact ⟨a, dx, _, rfl, slt_mono n1.fz hs, G1, b1, [.obj c fs], d, b', .cons r .nil, rfl, n1.fz, n1.bag, e3, fun p ws G2 H2 n2 hp gp hh r2 => q p ws G2 H2 (n1.trans n2) (n1.free hp) gp hh r2⟩
end
end DL
set_option Elab.async false
set_option maxRecDepth 100000
set_option autoImplicit false
set_option linter.unusedVariables false
set_option maxHeartbeats 4000000
noncomputable section
namespace LW
open PySem L2 PySem.Spec PyProof.Rows DL
local macro_rules | `(tactic| walk_at "ev") => `(tactic| try simp -implicitDefEqProofs only [DL.runD, DL.runN, DL.startD, seqM, setM, setNM, retM, retNM, dropM, ifM, unpM, List.map_cons, List.map_nil, List.length_cons, List.length_nil, Nat.reduceAdd, Nat.reduceSub, List.replicate, List.cons_append, List.nil_append, view_eq, viewAt_cons, viewAt_nil, List.contains_cons, List.contains_nil, Nat.reduceBEq, Bool.or_true, Bool.or_false, Bool.true_or, if_true, Bool.false_eq_true, if_false, Option.map_some, Option.map_none, see_val, see_own, e2, t2, e1, cst, aN, aC, eCall, nCall, eN, nLst, eTup, tVal, tNotM, eAnd, eNot, eIf, iAny, iRg1, iRg2, nLc, oN, oS, eSl, sNil, rd_0, rd_1, rd_2, rd_3, rd_4, rd_5, rd_6, rd_7, rd_8, rd_9, rd_10, rd_11, rd_12, rd_13, rd_14, M.ret_bind, M.bind_assoc, flat_int, flat_str, flat_bl, flat_non, flat_bag, flat_lst, flat_tup, keepIf_t, keepIf_f, frz_eq, frzAt_cons, frzAt_nil, List.set_cons_succ, List.set_cons_zero, subD_int, addD_int, negD_int, asI_int, asB_bl, truD_bl, lenF_lst, lenF_tup, intF_int, intF_bl, absF_int, ltD_int, leD_int, gtD_int, geD_int, eqD_int, eqD_str, neD_int, neD_str, inD_str, notInD_str, slD_lst, slD_scr, revD_lst, itemsD_lst, itemsD_tup, itemsD_str, Bool.not_true, Bool.not_false])
def F__law_bag : Env2 → M Out :=
  (retNM [0, 1] (nLst (aC (cst (.int 0)) (aC (cst (.int 1234567891)) (aC (cst (.int 0)) (aC (eN (nLc [1] (iAny (eSl (rdEnv 0) oN (oS (cst (.int 63))))) (bName 1) cT (eCall absF (aC (rdEnv 1) aN)))) aN))))))
def R__law_bag : List D → M (List D) := runN 2 F__law_bag
def F__law_take : Env2 → M Out :=
  (seqM (ifM [0] (t2 (eqD false) (e2 ixD (rdEnv 0) (cst (.int 0))) (cst (.int 0)))
  (seqM (setM 4 [] (cst (.int 0)))
  (seqM (ifM [0] (t2 ltD (e2 ixD (rdEnv 0) (cst (.int 2))) (eCall lenF (aC (e2 ixD (rdEnv 0) (cst (.int 3))) aN)))
  (setM 4 [0] (e2 ixD (e2 ixD (rdEnv 0) (cst (.int 3))) (e2 ixD (rdEnv 0) (cst (.int 2)))))
  sNil)
  (seqM (bagAugM 0 2 [] (cst (.int 1)))
  (seqM (ifM [4] (t2 geD (rdEnv 4) (cst (.int 1000000000000000000)))
  (bagSetM 0 0 [4] (rdEnv 4))
  sNil)
  (seqM (setM 5 [0, 4] (e2 addD (e2 addD (e2 mulD (e2 ixD (rdEnv 0) (cst (.int 1))) (cst (.int 48271))) (e2 modD (eCall intF (aC (rdEnv 4) aN)) (cst (.int 2147483647)))) (e2 mulD (cst (.int 7919)) (e2 ixD (rdEnv 0) (cst (.int 2))))))
  (bagSetM 0 1 [5] (e2 modD (eCall intF (aC (rdEnv 5) aN)) (cst (.int 2147483647)))))))))
  sNil)
  (seqM (ifM [0] (t2 gtD (e2 ixD (rdEnv 0) (cst (.int 0))) (cst (.int 0)))
  (seqM (setM 6 [0, 1] (e2 modD (eCall intF (aC (e2 ixD (rdEnv 0) (cst (.int 0))) aN)) (rdEnv 1)))
  (seqM (bagSetM 0 0 [0, 1] (e2 divD (e2 ixD (rdEnv 0) (cst (.int 0))) (rdEnv 1)))
  (retM [6] (rdEnv 6))))
  sNil)
  (seqM (setM 2 [0] (e2 modD (eCall intF (aC (e2 mulD (e2 addD (e2 ixD (rdEnv 0) (cst (.int 1))) (cst (.int 1))) (cst (.int 39373))) aN)) (cst (.int 1000000007))))
  (seqM (setM 3 [2] (e2 modD (eCall intF (aC (e2 mulD (e2 modD (eCall intF (aC (e2 mulD (rdEnv 2) (rdEnv 2)) aN)) (cst (.int 998244353))) (cst (.int 30011))) aN)) (cst (.int 998244353))))
  (seqM (ifM [1] (t2 gtD (rdEnv 1) (cst (.int 1000000)))
  (retM [1, 2, 3] (e2 modD (eCall intF (aC (e2 addD (e2 mulD (rdEnv 3) (cst (.int 1000000007))) (rdEnv 2)) aN)) (rdEnv 1)))
  sNil)
  (retM [1, 3] (e2 modD (eCall intF (aC (e2 divD (rdEnv 3) (cst (.int 7))) aN)) (rdEnv 1))))))))
def R__law_take : List D → M D := runD 7 F__law_take
theorem bag_made (ns : List Int) (h : ns.length ≤ 63) : ∃ cs : List Int, R__law_bag [.scr ns] none = some ([.int 0, .int 1234567891, .int 0, .lst (cs.map D.int)], none) := by
  refine ⟨ns.map fun n => if n < 0 then -n else n, ?_⟩
  simp only [R__law_bag, F__law_bag]
  walk_at "ev"
  rw [cut_all _ (by simp; omega), compM_mapI (l := fun a => [(1, D.int a)]) (y := fun n => D.int (if n < 0 then -n else n)) (fun a _ => ⟨rfl, rfl, rfl⟩)]
  walk_at "ev"
  rw [szL_ok (by simp; omega)]
  walk_at "ev"
  rw [szL_ok (by simp)]
  simp only [List.map_map]
  rfl
theorem bx0 {α : Type} {p : Addr} {g : Bg} {f : D → M α} (h : g.p = p) : M.bind (ixD (.bag p) (.int 0)) f (some g) = f (.int g.z0) (some g) := by
  subst h
  refine M.bind_eq ?_
  show (if g.p = g.p then _ else none) = _
  rw [if_pos rfl]; rfl
theorem bx1 {α : Type} {p : Addr} {g : Bg} {f : D → M α} (h : g.p = p) : M.bind (ixD (.bag p) (.int 1)) f (some g) = f (.int g.z1) (some g) := by
  subst h
  refine M.bind_eq ?_
  show (if g.p = g.p then _ else none) = _
  rw [if_pos rfl]; rfl
theorem bx2 {α : Type} {p : Addr} {g : Bg} {f : D → M α} (h : g.p = p) : M.bind (ixD (.bag p) (.int 2)) f (some g) = f (.int g.z2) (some g) := by
  subst h
  refine M.bind_eq ?_
  show (if g.p = g.p then _ else none) = _
  rw [if_pos rfl]; rfl
theorem bx3 {α : Type} {p : Addr} {g : Bg} {f : D → M α} (h : g.p = p) : M.bind (ixD (.bag p) (.int 3)) f (some g) = f (.lst (g.cs.map D.int)) (some g) := by
  subst h
  refine M.bind_eq ?_
  show (if g.p = g.p then _ else none) = _
  rw [if_pos rfl]; rfl
theorem bput {p : Addr} {g g' : Bg} {k n : Int} {r : Env2} (h : g.p = p) (e : putB k n g = some g') : bagPut 0 k (.int n) (some (.val (.bag p)) :: r) (some g) = some (.nx (some (.val (.bag p)) :: r), some g') := by
  subst h
  show (if g.p = g.p then _ else none) = _
  rw [if_pos rfl, e]; rfl
def takeTail : Env2 → M Out :=
  (seqM (ifM [0] (t2 gtD (e2 ixD (rdEnv 0) (cst (.int 0))) (cst (.int 0)))
  (seqM (setM 6 [0, 1] (e2 modD (eCall intF (aC (e2 ixD (rdEnv 0) (cst (.int 0))) aN)) (rdEnv 1)))
  (seqM (bagSetM 0 0 [0, 1] (e2 divD (e2 ixD (rdEnv 0) (cst (.int 0))) (rdEnv 1)))
  (retM [6] (rdEnv 6))))
  sNil)
  (seqM (setM 2 [0] (e2 modD (eCall intF (aC (e2 mulD (e2 addD (e2 ixD (rdEnv 0) (cst (.int 1))) (cst (.int 1))) (cst (.int 39373))) aN)) (cst (.int 1000000007))))
  (seqM (setM 3 [2] (e2 modD (eCall intF (aC (e2 mulD (e2 modD (eCall intF (aC (e2 mulD (rdEnv 2) (rdEnv 2)) aN)) (cst (.int 998244353))) (cst (.int 30011))) aN)) (cst (.int 998244353))))
  (seqM (ifM [1] (t2 gtD (rdEnv 1) (cst (.int 1000000)))
  (retM [1, 2, 3] (e2 modD (eCall intF (aC (e2 addD (e2 mulD (rdEnv 3) (cst (.int 1000000007))) (rdEnv 2)) aN)) (rdEnv 1)))
  sNil)
  (retM [1, 3] (e2 modD (eCall intF (aC (e2 divD (rdEnv 3) (cst (.int 7))) aN)) (rdEnv 1)))))))
theorem take_end {p : Addr} {m : Int} (h1 : 1 ≤ m) (h2 : m < 1000000000000000000000000000000) {s4 s5 : Option Slot} (g : Bg) (hg : okB p g) : ∃ d g', (M.bind (takeTail [some (.val (.bag p)), some (.val (.int m)), none, none, s4, s5, none]) fun o => match o with
  | .rt d => M.ret d
  | .rn xs => M.ret (.lst xs)
  | .nx _ => M.ret .non
  | _ => M.fail) (some g) = some (d, some g') ∧ (okB p g' ∧ g'.st = g.st) ∧ ∃ v, d = .int v ∧ 0 ≤ v ∧ v < m := by
  obtain ⟨hp, hz⟩ := hg
  have hm : 0 < m := by omega
  have fin : ∀ z : Int, 0 ≤ z % m ∧ z % m < m := fun z => ⟨Int.emod_nonneg _ (by omega), Int.emod_lt_of_pos _ hm⟩
  unfold takeTail
  walk_at "ev"
  rw [bx0 hp]
  walk_at "ev"
  by_cases h0 : 0 < g.z0
  · simp only [decide_eq_true h0, if_true]
    walk_at "ev"
    rw [bx0 hp]
    walk_at "ev"
    simp only [modD_int hm]
    walk_at "ev"
    simp only [bagSetM]
    walk_at "ev"
    rw [bx0 hp, divD_int hm h2]
    walk_at "ev"
    rw [M.bind_eq (bput hp (show putB 0 (g.z0 / m) g = some { g with z0 := g.z0 / m } from rfl))]
    walk_at "ev"
    exact ⟨_, _, rfl, ⟨⟨hp, hz⟩, rfl⟩, _, rfl, fin _⟩
  · simp only [decide_eq_false h0, if_false, Bool.false_eq_true]
    walk_at "ev"
    rw [bx1 hp]
    walk_at "ev"
    rw [mulD_int (okM_r (by decide) (by decide))]
    walk_at "ev"
    simp only [modD_int (show (0 : Int) < 1000000007 by decide), modD_int (show (0 : Int) < 998244353 by decide)]
    walk_at "ev"
    have hb : ∀ z : Int, 0 ≤ z % 1000000007 ∧ z % 1000000007 < 1000000007 := fun z => ⟨Int.emod_nonneg _ (by decide), Int.emod_lt_of_pos _ (by decide)⟩
    have hb1 := hb ((g.z1 + 1) * 39373)
    rw [mulD_int (okM_r (by omega) (by omega))]
    walk_at "ev"
    rw [modD_int (show (0 : Int) < 998244353 by decide)]
    walk_at "ev"
    rw [mulD_int (okM_r (by decide) (by decide))]
    walk_at "ev"
    rw [modD_int (show (0 : Int) < 998244353 by decide)]
    walk_at "ev"
    by_cases h3 : 1000000 < m
    · simp only [decide_eq_true h3, if_true]
      walk_at "ev"
      rw [mulD_int (okM_r (by decide) (by decide))]
      walk_at "ev"
      rw [modD_int hm]
      walk_at "ev"
      exact ⟨_, _, rfl, ⟨⟨hp, hz⟩, rfl⟩, _, rfl, fin _⟩
    · simp only [decide_eq_false h3, if_false, Bool.false_eq_true]
      walk_at "ev"
      rw [divD_int (by decide) (by decide)]
      walk_at "ev"
      rw [modD_int hm]
      walk_at "ev"
      exact ⟨_, _, rfl, ⟨⟨hp, hz⟩, rfl⟩, _, rfl, fin _⟩
theorem seq_app {F1 F2 : Env2 → M Out} {ρ ρ' : Env2} {b b' : Bs} (h : F1 ρ b = some (.nx ρ', b')) : seqM F1 F2 ρ b = F2 ρ' b' := M.bind_eq h
theorem bindF_app {α : Type} {m m' : M Out} {k : Out → M α} {b b' : Bs} (h : m b = m' b') : M.bind m k b = M.bind m' k b' := by
  unfold M.bind
  rw [h]
theorem take_cell {p : Addr} {m : Int} (g : Bg) (hg : okB p g) {c : Int} : ∃ s5 g', (seqM (bagAugM 0 2 [] (cst (.int 1)))
  (seqM (ifM [4] (t2 geD (rdEnv 4) (cst (.int 1000000000000000000)))
  (bagSetM 0 0 [4] (rdEnv 4))
  sNil)
  (seqM (setM 5 [0, 4] (e2 addD (e2 addD (e2 mulD (e2 ixD (rdEnv 0) (cst (.int 1))) (cst (.int 48271))) (e2 modD (eCall intF (aC (rdEnv 4) aN)) (cst (.int 2147483647)))) (e2 mulD (cst (.int 7919)) (e2 ixD (rdEnv 0) (cst (.int 2))))))
  (bagSetM 0 1 [5] (e2 modD (eCall intF (aC (rdEnv 5) aN)) (cst (.int 2147483647))))))) [some (.val (.bag p)), some (.val (.int m)), none, none, some (.val (.int c)), none, none] (some g) = some (.nx [some (.val (.bag p)), some (.val (.int m)), none, none, some (.val (.int c)), s5, none], some g') ∧ okB p g' ∧ g'.st = g.st := by
  obtain ⟨hp, hz⟩ := hg
  have e1 : bagAugM 0 2 [] (cst (.int 1)) [some (.val (.bag p)), some (.val (.int m)), none, none, some (.val (.int c)), none, none] (some g) = some (.nx [some (.val (.bag p)), some (.val (.int m)), none, none, some (.val (.int c)), none, none], some { g with z2 := g.z2 + 1 }) := by
    simp only [bagAugM, cst, M.ret_bind]
    rw [if_neg (by decide), if_neg (by decide)]
    exact bput hp rfl
  rw [seq_app e1]
  have e2' : ∃ z, (ifM [4] (t2 geD (rdEnv 4) (cst (.int 1000000000000000000))) (bagSetM 0 0 [4] (rdEnv 4)) sNil) [some (.val (.bag p)), some (.val (.int m)), none, none, some (.val (.int c)), none, none] (some { g with z2 := g.z2 + 1 }) = some (.nx [some (.val (.bag p)), some (.val (.int m)), none, none, some (.val (.int c)), none, none], some { g with z2 := g.z2 + 1, z0 := z }) := by
    walk_at "ev"
    by_cases h : 1000000000000000000 ≤ c
    · simp only [decide_eq_true h, if_true, bagSetM]
      walk_at "ev"
      exact ⟨c, bput hp rfl⟩
    · simp only [decide_eq_false h, if_false, Bool.false_eq_true]
      exact ⟨g.z0, rfl⟩
  obtain ⟨z, e3⟩ := e2'
  rw [seq_app e3]
  walk_at "ev"
  simp only [bagSetM]
  walk_at "ev"
  rw [bx1 (by exact hp)]
  rw [mulD_int (okM_r (by decide) (by decide))]
  walk_at "ev"
  rw [modD_int (by decide)]
  walk_at "ev"
  rw [bx2 (by exact hp)]
  rw [mulD_int (okM_l (by decide) (by decide))]
  walk_at "ev"
  rw [modD_int (by decide)]
  walk_at "ev"
  refine ⟨_, _, bput (by exact hp) rfl, ⟨?_, ?_⟩, rfl⟩
  · exact hp
  · show 0 ≤ g.z2 + 1
    omega
theorem take_tot {p : Addr} {m : Int} (h1 : 1 ≤ m) (h2 : m < 1000000000000000000000000000000) : Tot p (R__law_take [.bag p, .int m]) fun d => ∃ v, d = .int v ∧ 0 ≤ v ∧ v < m := by
  intro g hg
  obtain ⟨hp, hz⟩ := id hg
  show ∃ d g', M.bind (F__law_take [some (.val (.bag p)), some (.val (.int m)), none, none, none, none, none]) _ (some g) = some (d, some g') ∧ _
  by_cases h0 : g.z0 = 0
  · have hh : ∃ s4 s5 g', F__law_take [some (.val (.bag p)), some (.val (.int m)), none, none, none, none, none] (some g) = takeTail [some (.val (.bag p)), some (.val (.int m)), none, none, s4, s5, none] (some g') ∧ okB p g' ∧ g'.st = g.st := by
      by_cases hc : g.z2 < (g.cs.length : Int)
      · obtain ⟨c, hc2⟩ : ∃ c, atI (g.cs.map D.int) g.z2 = some (D.int c) := by
          rw [atI_lt hz (by simpa using hc), List.getElem?_map, List.getElem?_eq_getElem (by omega)]
          exact ⟨_, rfl⟩
        obtain ⟨s5, g', e, ho⟩ := take_cell (m := m) g hg (c := c)
        refine ⟨some (.val (.int c)), s5, g', ?_, ho⟩
        unfold F__law_take
        refine seq_app ?_
        rw [← e]
        simp only [ifM, t2, e2, cst, view_eq, viewAt_cons, viewAt_nil, List.contains_cons, List.contains_nil, Nat.reduceBEq, Bool.or_true, Bool.or_false, if_true, Option.map_some, see_val, rd_0, M.ret_bind, M.bind_assoc]
        rw [bx0 hp]
        simp only [eqD_int, asB_bl, M.ret_bind, decide_eq_true h0, if_true]
        refine seq_app (ρ' := [some (.val (.bag p)), some (.val (.int m)), none, none, some (.val (.int 0)), none, none]) (b' := some g) (by rfl) |>.trans ?_
        refine seq_app ?_
        walk_at "ev"
        rw [bx2 hp, bx3 hp]
        walk_at "ev"
        simp only [List.length_map, decide_eq_true hc, if_true]
        rw [bx3 hp, bx2 hp, ixD_lst hc2]
        rfl
      · obtain ⟨s5, g', e, ho⟩ := take_cell (m := m) g hg (c := 0)
        refine ⟨some (.val (.int 0)), s5, g', ?_, ho⟩
        unfold F__law_take
        refine seq_app ?_
        rw [← e]
        simp only [ifM, t2, e2, cst, view_eq, viewAt_cons, viewAt_nil, List.contains_cons, List.contains_nil, Nat.reduceBEq, Bool.or_true, Bool.or_false, if_true, Option.map_some, see_val, rd_0, M.ret_bind, M.bind_assoc]
        rw [bx0 hp]
        simp only [eqD_int, asB_bl, M.ret_bind, decide_eq_true h0, if_true]
        refine seq_app (ρ' := [some (.val (.bag p)), some (.val (.int m)), none, none, some (.val (.int 0)), none, none]) (b' := some g) (by rfl) |>.trans ?_
        refine seq_app ?_
        walk_at "ev"
        rw [bx2 hp, bx3 hp]
        walk_at "ev"
        simp only [List.length_map, decide_eq_false hc, if_false, Bool.false_eq_true]
        rfl
    obtain ⟨s4, s5, g', e, ho, hs⟩ := hh
    rw [bindF_app e]
    obtain ⟨d, g2, e2, ⟨h3, h4⟩, h5⟩ := take_end h1 h2 g' ho
    exact ⟨d, g2, e2, ⟨h3, h4.trans hs⟩, h5⟩
  · have e : F__law_take [some (.val (.bag p)), some (.val (.int m)), none, none, none, none, none] (some g) = takeTail [some (.val (.bag p)), some (.val (.int m)), none, none, none, none, none] (some g) := by
      unfold F__law_take
      refine seq_app ?_
      walk_at "ev"
      rw [bx0 hp]
      walk_at "ev"
      simp only [decide_eq_false h0, if_false, Bool.false_eq_true]
      rfl
    rw [bindF_app e]
    exact take_end h1 h2 g hg
local macro_rules | `(tactic| walk_at "dis") => `(tactic| first | assumption | omega | (simp only [List.length_map, List.length_range, List.length_append, List.length_cons, List.length_nil, List.length_reverse, List.length_take, List.length_drop, List.length_replicate, List.length_singleton]; omega) | (simp; done))
local macro_rules | `(tactic| walk_at "ev2") => `(tactic| try simp -implicitDefEqProofs -dsimp (disch := walk_at "dis") only [↓q_seq, ↓q_seqK_nx, ↓q_seqK_rt, ↓q_seqK_rn, ↓q_seqK_bk, ↓q_seqK_ct, ↓q_runD, ↓q_runN, q_runK_rt, q_runK_rn, q_runK_nx, q_runKN_rn, ↓q_set, ↓q_setN, ↓q_ret, ↓q_retN, ↓q_if, ↓q_unp, q_unpK, ↓q_par, q_parK, ↓q_aug, q_augK, q_addF_int, q_addF_str, q_guard, ↓q_for, ↓q_forR, ↓q_sNil, ↓q_e2, ↓q_t2, ↓q_e1, ↓q_cst, ↓q_aN, ↓q_aC, ↓q_call, ↓q_callN, ↓q_eN, ↓q_nLst, q_lstK, ↓q_eTup, q_tupK, ↓q_tVal, ↓q_tNot, ↓q_tAnd, ↓q_tOr, ↓q_eAnd, ↓q_eNot, ↓q_eIf, ↓q_iAny, ↓q_iRg1, ↓q_iRg2, ↓q_nLc, ↓q_cT, ↓q_oN, ↓q_oS, ↓q_eSl, ↓q_eChain, ↓q_eMake, ↓q_eMeth, ↓q_n1M, ↓q_iSeq, q_selK, q_self, ↓q_ext, q_extK, q_inE, q_notInE, q_is_non, q_is_str, q_is_int, q_is_tup, q_is_lst, q_isnt_non, q_isnt_str, q_isnt_int, q_isnt_tup, q_isnt_lst, q_list_l, q_list_t, q_max2, q_sum, q_ixF_s, q_ixF_l, q_ixF_t, q_ixF_b, q_inF_s, q_inF_l, q_inF_t, q_lenG_s, q_lenG_l, q_lenG_t, q_lenG_d, q_lenG_dt, q_seeT, q_toDv, q_toDl, q_toDk, q_toDt, q_toDs0, q_toDs1, q_toDsm, q_fls0, q_fls1, q_flv, q_fll, q_flk, q_flt, q_flsm, q_flatS, q_flatI, q_flatS2, q_mapv0, bnd_ret, bnd_assoc, bnd_assoc', bnd_r, cnd_t, cnd_f, cnd_bnd, fail_bnd, bind_bnd, str01, List.cons.injEq, and_true, decide_true, decide_false, cut_toN, cut_fromN, cut_from1N, cut_to1N, cut_to1, cut_to2, cut_to3, cut_from1, cut_toM1, cut_fromM1, DL.startD, List.map_cons, List.map_nil, List.length_cons, List.length_nil, Nat.reduceAdd, Nat.reduceSub, List.replicate, List.cons_append, List.nil_append, view_eq, viewAt_cons, viewAt_nil, List.contains_cons, List.contains_nil, Nat.reduceBEq, Bool.or_true, Bool.or_false, Bool.true_or, Bool.false_or, if_true, Bool.false_eq_true, if_false, Option.map_some, Option.map_none, see_val, see_own, rd_0, rd_1, rd_2, rd_3, rd_4, rd_5, rd_6, rd_7, rd_8, rd_9, rd_10, rd_11, rd_12, rd_13, rd_14, Int.reduceToNat, flat_int, flat_str, flat_bl, flat_non, flat_bag, flat_lst, flat_tup, flat_obj, List.all_cons, List.all_nil, Bool.and_true, Bool.true_and, Bool.and_false, Bool.false_and, keepIf_t, keepIf_f, frz_eq, frzAt_cons, frzAt_nil, List.set_cons_succ, List.set_cons_zero, subD_int, addD_int, negD_int, asI_int, asB_bl, truD_bl, lenF_lst, lenF_tup, intF_int, intF_bl, absF_int, ltD_int, leD_int, gtD_int, geD_int, eqD_int, eqD_str, neD_int, neD_str, inD_str, notInD_str, slD_lst, slD_scr, revD_lst, itemsD_lst, itemsD_tup, itemsD_str, Bool.not_true, Bool.not_false, ixD_l, ixD_t, ofSome, atI_0, atI_1, atI_2, atI_3, atI_4, atI_app, slotD_obj, propD_obj, propN_obj, isC_obj, get0, get1, get2, get3, getS, bName_eq, bTup_eq, bCons_eq, bNil_eq, setAll2_cons, setAll2_nil, setAllD_cons, setAllD_nil, wipeD_cons, wipeD_nil, isi_str_str, isi_int_int, isi_bool_int, List.getElem?_cons_zero, List.getElem?_cons_succ, lenF_str, modD_int, divD_int, addD_str, addD_lst, slD_str, revD_str, ixD_str, ixD_str1, ixD_strmod, rng1_int, rng2_int, mulD_intl, mulD_intr, intF_dig])
def F_is_integer : Env2 → M Out :=
  (retM [0] (eAnd (e1 (isiD "int") (rdEnv 0)) (eNot (e1 (isiD "bool") (rdEnv 0)))))
def R_is_integer : List D → M D := runD 1 F_is_integer
def BinT (t : List Nat) : Prop := t.length = 4 ∧ ∀ c ∈ t, c = 48 ∨ c = 49
def Sg (r : Nat) (x : List Nat) : Prop := ∀ c ∈ x, 48 ≤ c ∧ c < 50 + r
def sgn (t : List Nat) (r a b c : Nat) : Nat := if b = 48 then t.getD (2 * (if a = 49 then 1 else 0) + (if c = 49 then 1 else 0)) 0 else if b = 49 + r then 48 else b + 1
def ringL (t : List Nat) (r : Nat) (x : List Nat) : List Nat := (List.range x.length).map fun k => sgn t r (x.getD ((k + (x.length - 1)) % x.length) 0) (x.getD k 0) (x.getD ((k + 1) % x.length) 0)
theorem Sg.get {r : Nat} {x : List Nat} (h : Sg r x) {i : Nat} (hi : i < x.length) : 48 ≤ x.getD i 0 ∧ x.getD i 0 < 50 + r := by
  rw [List.getD_eq_getElem?_getD, List.getElem?_eq_getElem hi]
  exact h _ (List.getElem_mem hi)
theorem BinT.get {t : List Nat} (h : BinT t) {i : Nat} (hi : i < 4) : t.getD i 0 = 48 ∨ t.getD i 0 = 49 := by
  have hi' : i < t.length := by rw [h.1]; exact hi
  rw [List.getD_eq_getElem?_getD, List.getElem?_eq_getElem hi']
  exact h.2 _ (List.getElem_mem hi')
theorem ringL_len (t : List Nat) (r : Nat) (x : List Nat) : (ringL t r x).length = x.length := by simp [ringL]
theorem allF_map {α : Type} (xs : List α) (f : α → Bool) : allF [.lst (xs.map fun a => D.bl (f a))] = M.ret (.bl (xs.all f)) := by
  show (match blsD (xs.map fun a => D.bl (f a)) with
    | some bs => M.ret (D.bl (bs.all id))
    | none => M.fail) = _
  rw [blsD_map]
  show M.ret (D.bl ((xs.map f).all id)) = _
  congr 2
  induction xs with
  | nil => rfl
  | cons a r ih => simp [ih]
theorem is_integer_is (i : Int) : R_is_integer [.int i] = M.ret (.bl true) := by
  simp only [R_is_integer, F_is_integer]
  walk_at "ev2"
theorem int_okd {i : Int} (h : i.natAbs < 10 ^ 12) {w : Nat} (hz : 13 ≤ w) : Okd 0 w (.int i) := (Okd.int h).mono (Nat.le_refl _) hz
def itN {α : Type} (f : α → α) : Nat → α → α
  | 0, x => x
  | n + 1, x => itN f n (f x)
theorem itN_succ {α : Type} (f : α → α) : ∀ (n : Nat) (x : α), itN f (n + 1) x = f (itN f n x)
  | 0, _ => rfl
  | n + 1, x => itN_succ f n (f x)
theorem itN_add {α : Type} (f : α → α) (m : Nat) : ∀ (n : Nat) (x : α), itN f (m + n) x = itN f m (itN f n x)
  | 0, _ => rfl
  | n + 1, x => by rw [← Nat.add_assoc]; exact itN_add f m n (f x)
theorem itN_ring_len (t : List Nat) (r : Nat) : ∀ (n : Nat) (x : List Nat), (itN (ringL t r) n x).length = x.length
  | 0, _ => rfl
  | n + 1, x => (itN_ring_len t r n _).trans (ringL_len t r x)
def code (b : Nat) : List Nat → Nat
  | [] => 0
  | c :: r => (c - 48) + b * code b r
def itL {α : Type} (f : α → α) (x : α) (m : Nat) : List α := (List.range m).map fun i => itN f i x
theorem itL_len {α : Type} (f : α → α) (x : α) (m : Nat) : (itL f x m).length = m := by simp [itL]
theorem mem_itL {α : Type} {f : α → α} {x y : α} {m : Nat} : y ∈ itL f x m ↔ ∃ i, i < m ∧ itN f i x = y := by
  unfold itL
  simp
theorem itL_get {α : Type} {f : α → α} {x : α} {m i : Nat} (h : i < m) : (itL f x m)[i]? = some (itN f i x) := by
  unfold itL
  rw [List.getElem?_map, List.getElem?_range h]; rfl
structure IsPath {α : Type} (f : α → α) (x : α) (m : Nat) : Prop where
  nd : (itL f x m).Nodup
  back : itN f m x ∈ itL f x m
theorem IsPath.pos {α : Type} {f : α → α} {x : α} {m : Nat} (h : IsPath f x m) : 0 < m := by
  obtain ⟨i, hi, _⟩ := mem_itL.mp h.back
  omega
theorem IsPath.uniq {α : Type} {f : α → α} {x : α} {m k : Nat} (h : IsPath f x m) (h' : IsPath f x k) : m = k := by
  have aux : ∀ {m k : Nat}, IsPath f x m → IsPath f x k → ¬ m < k := by
    intro m k h h' hlt
    obtain ⟨i, hi, e⟩ := mem_itL.mp h.back
    have nd := h'.nd
    have h1 := itL_get (f := f) (x := x) (m := k) (i := m) hlt
    have h2 := itL_get (f := f) (x := x) (m := k) (i := i) (by omega)
    rw [e] at h2
    have := (List.getElem?_inj (by rw [itL_len]; exact hlt) nd).mp (h1.trans h2.symm)
    omega
  have a1 := aux h h'
  have a2 := aux h' h
  omega
def early (f : List Nat → List Nat) (x : List Nat) (m : Nat) : Nat := (itL f x m).idxOf (itN f m x)
def F__law_long : Env2 → M Out :=
  (seqM (ifM [0] (t2 (eqD false) (eCall R__law_take (aC (rdEnv 0) (aC (cst (.int 2)) aN))) (cst (.int 0)))
  (retM [0] (eCall R__law_take (aC (rdEnv 0) (aC (cst (.int 30)) aN))))
  sNil)
  (retM [0] (e2 addD (eCall intF (aC (e2 addD (cst (.str [49])) (e2 mulD (cst (.str [48])) (eCall R__law_take (aC (rdEnv 0) (aC (cst (.int 40)) aN))))) aN)) (eCall R__law_take (aC (rdEnv 0) (aC (cst (.int 50)) aN))))))
def R__law_long : List D → M D := runD 1 F__law_long
def turnL (t : List Nat) (p : Int) : List Nat := (List.range t.length).map fun (k : Nat) => t.getD (((k : Int) - p) % (t.length : Int)).toNat 0
theorem turnL_len (t : List Nat) (p : Int) : (turnL t p).length = t.length := by simp [turnL]
theorem turnL_get {x : List Nat} {p : Int} {k : Nat} (hk : k < x.length) : (turnL x p).getD k 0 = x.getD (((k : Int) - p) % (x.length : Int)).toNat 0 := by
  unfold turnL
  rw [List.getD_eq_getElem?_getD, List.getElem?_map, List.getElem?_range hk]
  rfl
def rat (x : List Nat) (i : Int) : Nat := x.getD (i % (x.length : Int)).toNat 0
theorem rat_nat {x : List Nat} {k : Nat} (hk : k < x.length) : rat x (k : Int) = x.getD k 0 := by
  unfold rat
  rw [Int.emod_eq_of_lt (by omega) (by omega), Int.toNat_natCast]
theorem rat_ext {x y : List Nat} (hl : x.length = y.length) (h : ∀ i, rat x i = rat y i) : x = y := by
  apply List.ext_getElem hl
  intro k h1 h2
  have := h k
  rw [rat_nat h1, rat_nat h2, List.getD_eq_getElem?_getD, List.getD_eq_getElem?_getD, List.getElem?_eq_getElem h1, List.getElem?_eq_getElem h2] at this
  exact this
theorem rat_mod {x : List Nat} {i j : Int} (h : i % (x.length : Int) = j % (x.length : Int)) : rat x i = rat x j := by
  unfold rat
  rw [h]
theorem rat_turn {x : List Nat} (h0 : 0 < x.length) (p i : Int) : rat (turnL x p) i = rat x (i - p) := by
  have h1 := Int.emod_nonneg i (by omega : (x.length : Int) ≠ 0)
  have h2 := Int.emod_lt_of_pos i (by omega : (0 : Int) < x.length)
  unfold rat
  rw [turnL_len, turnL_get (by omega), Int.toNat_of_nonneg h1, Int.emod_sub_emod]
theorem rat_ring {t : List Nat} {r : Nat} {x : List Nat} (h0 : 0 < x.length) (i : Int) : rat (ringL t r x) i = sgn t r (rat x (i - 1)) (rat x i) (rat x (i + 1)) := by
  have h1 := Int.emod_nonneg i (by omega : (x.length : Int) ≠ 0)
  have h2 := Int.emod_lt_of_pos i (by omega : (0 : Int) < x.length)
  have ll : (ringL t r x).length = x.length := by simp [ringL]
  have e0 : (((i % (x.length : Int)).toNat : Nat) : Int) = i % (x.length : Int) := Int.toNat_of_nonneg h1
  have hk : (i % (x.length : Int)).toNat < x.length := by omega
  unfold rat
  rw [ll]
  conv => lhs; unfold ringL
  rw [List.getD_eq_getElem?_getD, List.getElem?_map, List.getElem?_range hk, Option.map_some, Option.getD_some]
  have e1 : ((i % (x.length : Int)).toNat + (x.length - 1)) % x.length = ((i - 1) % (x.length : Int)).toNat := by
    have : ((((i % (x.length : Int)).toNat + (x.length - 1)) % x.length : Nat) : Int) = (i - 1) % (x.length : Int) := by
      rw [Int.natCast_emod, Int.natCast_add, e0, show ((x.length - 1 : Nat) : Int) = (x.length : Int) - 1 by omega, Int.emod_add_emod, show i + ((x.length : Int) - 1) = i - 1 + x.length by omega, Int.add_emod_right]
    omega
  have e2 : ((i % (x.length : Int)).toNat + 1) % x.length = ((i + 1) % (x.length : Int)).toNat := by
    have : ((((i % (x.length : Int)).toNat + 1) % x.length : Nat) : Int) = (i + 1) % (x.length : Int) := by
      rw [Int.natCast_emod, Int.natCast_add, e0, Int.natCast_one, Int.emod_add_emod]
    omega
  rw [e1, e2]
theorem ring_turn {t : List Nat} {r : Nat} {x : List Nat} (h0 : 0 < x.length) (p : Int) : ringL t r (turnL x p) = turnL (ringL t r x) p := by
  refine rat_ext (by rw [ringL_len, turnL_len, turnL_len, ringL_len]) fun i => ?_
  rw [rat_ring (by rw [turnL_len]; exact h0), rat_turn h0, rat_turn h0, rat_turn h0, rat_turn (by rw [ringL_len]; exact h0), rat_ring h0]
  congr 2 <;> omega
theorem turn_turn {x : List Nat} (h0 : 0 < x.length) (p q : Int) : turnL (turnL x p) q = turnL x (p + q) := by
  refine rat_ext (by rw [turnL_len, turnL_len, turnL_len]) fun i => ?_
  rw [rat_turn (by rw [turnL_len]; exact h0), rat_turn h0, rat_turn h0, show i - q - p = i - (p + q) by omega]
theorem turn_zero (x : List Nat) : turnL x 0 = x := by
  by_cases h : x.length = 0
  · rw [List.length_eq_zero_iff.mp h]; rfl
  · refine rat_ext (turnL_len _ _) fun i => ?_
    rw [rat_turn (by omega), Int.sub_zero]
theorem turn_mod {x : List Nat} (h0 : 0 < x.length) {p q : Int} (h : p % (x.length : Int) = q % (x.length : Int)) : turnL x p = turnL x q := by
  refine rat_ext (by rw [turnL_len, turnL_len]) fun i => ?_
  rw [rat_turn h0, rat_turn h0]
  exact rat_mod (by rw [Int.sub_emod, h, ← Int.sub_emod])
theorem itN_turn {t : List Nat} {r : Nat} (p : Int) : ∀ (k : Nat) {x : List Nat}, 0 < x.length → itN (ringL t r) k (turnL x p) = turnL (itN (ringL t r) k x) p
  | 0, x, _ => rfl
  | k + 1, x, h0 => by
    rw [itN_succ, itN_succ, itN_turn p k h0, ring_turn (by rw [itN_ring_len]; exact h0)]
theorem int_long : ∀ k, k < 60 → PySem.intText? ⟨(49 :: List.replicate k 48).toArray⟩ = some ((10 : Int) ^ k) := by decide +kernel
theorem mul0 {n : Nat} (h : n ≤ 100) : mulD (.str [48]) (.int (n : Int)) = M.ret (.str (List.replicate n 48)) := by
  have e : repL [48] n = List.replicate n 48 := by
    clear h
    induction n with
    | zero => rfl
    | succ n ih => rw [List.replicate_succ, ← ih]; rfl
  simp only [mulD]
  rw [Int.toNat_natCast, e, M.guard_of]
  unfold okRep
  simp only [Bool.and_eq_true, decide_eq_true_eq, Int.toNat_natCast, List.length_singleton]
  refine ⟨⟨?_, ?_⟩, ?_⟩
  · omega
  · omega
  · rw [Nat.one_mul]
    exact Nat.le_trans h (by decide)
theorem long_tot {p : Addr} : Tot p (R__law_long [.bag p]) fun d => ∃ n : Nat, d = .int (n : Int) := by
  simp only [R__law_long, F__law_long]
  walk_at "ev2"
  refine (take_tot (by omega) (by omega)).bnd ?_
  rintro _ ⟨v, rfl, v0, v1⟩
  walk_at "ev2"
  by_cases hv : v = 0
  · rw [cnd_dt hv]
    walk_at "ev2"
    refine (take_tot (by omega) (by omega)).bnd ?_
    rintro _ ⟨v, rfl, v0, v1⟩
    walk_at "ev2"
    exact Tot.ret ⟨v.toNat, by rw [Int.toNat_of_nonneg v0]⟩
  · rw [cnd_df hv]
    walk_at "ev2"
    refine (take_tot (by omega) (by omega)).bnd ?_
    rintro _ ⟨v, rfl, v0, v1⟩
    obtain ⟨k, rfl⟩ : ∃ k : Nat, v = (k : Int) := ⟨v.toNat, by rw [Int.toNat_of_nonneg v0]⟩
    walk_at "ev2"
    rw [mul0 (by omega)]
    walk_at "ev2"
    have ei : intF [D.str (49 :: List.replicate k 48)] = M.ret (.int ((10 : Int) ^ k)) := by
      simp only [intF, int_long k (by omega)]
      rw [M.guard_of (decide_eq_true (by rw [List.length_cons, List.length_replicate]; omega))]
    rw [ei]
    walk_at "ev2"
    refine (take_tot (by omega) (by omega)).bnd ?_
    rintro _ ⟨v, rfl, v0, v1⟩
    walk_at "ev2"
    refine Tot.ret ⟨10 ^ k + v.toNat, ?_⟩
    rw [Int.natCast_add, Int.toNat_of_nonneg v0, Int.natCast_pow]
    rfl
theorem IsPath.inj {α : Type} {f : α → α} {x : α} {m i j : Nat} (h : IsPath f x m) (hi : i < m) (hj : j < m) (e : itN f i x = itN f j x) : i = j := by
  have h1 := itL_get (f := f) (x := x) hi
  have h2 := itL_get (f := f) (x := x) hj
  rw [← e] at h2
  exact (List.getElem?_inj (by rw [itL_len]; exact hi) h.nd).mp (h1.trans h2.symm)
theorem itN_conj {α β : Type} {f : α → α} {g : β → β} {φ : α → β} {x : α} (h : ∀ i, g (φ (itN f i x)) = φ (itN f (i + 1) x)) : ∀ i, itN g i (φ x) = φ (itN f i x)
  | 0 => rfl
  | i + 1 => by rw [itN_succ, itN_conj h i, h i]
def Hit (I : Env2 → Prop) (g : Option D) (o : Out) : Prop := match g with
  | some d => o = .rt d
  | none => ∃ ρ, o = .nx ρ ∧ I ρ
theorem Hit.mono {I J : Env2 → Prop} {g : Option D} {o : Out} (h : Hit I g o) (hij : ∀ ρ, I ρ → J ρ) : Hit J g o := by
  cases g with
  | some d => exact h
  | none => obtain ⟨ρ, e, hi⟩ := h; exact ⟨ρ, e, hij ρ hi⟩
local macro_rules | `(tactic| walk_at "ev3") => `(tactic| try simp -implicitDefEqProofs -dsimp (disch := walk_at "dis") only [↓q_seq, ↓q_seqK_nx, ↓q_seqK_rt, ↓q_seqK_rn, ↓q_seqK_bk, ↓q_seqK_ct, ↓q_runD, ↓q_runN, q_runK_rt, q_runK_rn, q_runK_nx, q_runKN_rn, ↓q_set, ↓q_setN, ↓q_ret, ↓q_retN, ↓q_if, ↓q_unp, q_unpK, ↓q_par, q_parK, ↓q_aug, q_augK, q_addF_int, q_addF_str, q_guard, ↓q_for, ↓q_forR, ↓q_sNil, ↓q_e2, ↓q_t2, ↓q_e1, ↓q_cst, ↓q_aN, ↓q_aC, ↓q_call, ↓q_callN, ↓q_eN, ↓q_nLst, q_lstK, ↓q_eTup, q_tupK, ↓q_tVal, ↓q_tNot, ↓q_tAnd, ↓q_tOr, ↓q_eAnd, ↓q_eNot, ↓q_eIf, ↓q_iAny, ↓q_iRg1, ↓q_iRg2, ↓q_nLc, ↓q_cT, ↓q_oN, ↓q_oS, ↓q_eSl, ↓q_eChain, ↓q_eMake, ↓q_eMeth, ↓q_n1M, ↓q_iSeq, q_selK, q_self, ↓q_ext, q_extK, q_inE, q_notInE, q_is_non, q_is_str, q_is_int, q_is_tup, q_is_lst, q_isnt_non, q_isnt_str, q_isnt_int, q_isnt_tup, q_isnt_lst, q_list_l, q_list_t, q_max2, q_sum, q_ixF_s, q_ixF_l, q_ixF_t, q_ixF_b, q_inF_s, q_inF_l, q_inF_t, q_lenG_s, q_lenG_l, q_lenG_t, q_lenG_d, q_lenG_dt, q_seeT, q_toDv, q_toDl, q_toDk, q_toDt, q_toDs0, q_toDs1, q_toDsm, q_fls0, q_fls1, q_flv, q_fll, q_flk, q_flt, q_flsm, q_flatS, q_flatI, q_flatS2, q_mapv0, bnd_ret, bnd_assoc, bnd_assoc', bnd_r, cnd_t, cnd_f, fail_bnd, bind_bnd, str01, List.cons.injEq, and_true, decide_true, decide_false, cut_toN, cut_fromN, cut_from1N, cut_to1N, cut_to1, cut_to2, cut_to3, cut_from1, cut_toM1, cut_fromM1, DL.startD, List.map_cons, List.map_nil, List.length_cons, List.length_nil, Nat.reduceAdd, Nat.reduceSub, List.replicate, List.cons_append, List.nil_append, view_eq, viewAt_cons, viewAt_nil, List.contains_cons, List.contains_nil, Nat.reduceBEq, Bool.or_true, Bool.or_false, Bool.true_or, Bool.false_or, if_true, Bool.false_eq_true, if_false, Option.map_some, Option.map_none, see_val, see_own, rd_0, rd_1, rd_2, rd_3, rd_4, rd_5, rd_6, rd_7, rd_8, rd_9, rd_10, rd_11, rd_12, rd_13, rd_14, Int.reduceToNat, flat_int, flat_str, flat_bl, flat_non, flat_bag, flat_lst, flat_tup, flat_obj, List.all_cons, List.all_nil, Bool.and_true, Bool.true_and, Bool.and_false, Bool.false_and, keepIf_t, keepIf_f, frz_eq, frzAt_cons, frzAt_nil, List.set_cons_succ, List.set_cons_zero, subD_int, addD_int, negD_int, asI_int, asB_bl, truD_bl, lenF_lst, lenF_tup, intF_int, intF_bl, absF_int, ltD_int, leD_int, gtD_int, geD_int, eqD_int, eqD_str, neD_int, neD_str, inD_str, notInD_str, slD_lst, slD_scr, revD_lst, itemsD_lst, itemsD_tup, itemsD_str, Bool.not_true, Bool.not_false, ixD_l, ixD_t, ofSome, atI_0, atI_1, atI_2, atI_3, atI_4, atI_app, slotD_obj, propD_obj, propN_obj, isC_obj, get0, get1, get2, get3, getS, bName_eq, bTup_eq, bCons_eq, bNil_eq, setAll2_cons, setAll2_nil, setAllD_cons, setAllD_nil, wipeD_cons, wipeD_nil, isi_str_str, isi_int_int, isi_bool_int, List.getElem?_cons_zero, List.getElem?_cons_succ, q_minG2, q_minGs, q_iOne, q_inO, q_setAt, q_flat_dct, q_flat_dcT, q_eqC, q_isiO, q_isiO_i, q_isiO_s, q_isiO_n, q_isiO_l, q_isiO_t, q_nSortSc, q_isB, q_isntB, q_n2, q_catL, q_cndN, q_szL, q_c0, q_c1, q_c2, q_c3, q_c4, q_c5, q_c6, q_c7, q_c8, q_c9, q_c10, q_c11, q_c12, q_c13, q_c14, q_c15, q_c16, q_guardT, q_eqBl, q_neBl, q_toDu, q_flu, q_bLst, q_neC, q_cut2, q_cut3, eq_self, cnd_dt, cnd_df, Int.toNat_natCast, lenF_str, modD_int, divD_int, addD_str, addD_lst, slD_str, revD_str, ixD_str, ixD_str1, ixD_strmod, rng1_int, rng2_int, mulD_intl, mulD_intr, intF_dig])
theorem take_n {p : Addr} {m : Int} (h1 : 1 ≤ m) (h2 : m < 1000000000000000000000000000000) : Tot p (R__law_take [.bag p, .int m]) fun d => ∃ n : Nat, d = .int (n : Int) ∧ (n : Int) < m :=
  (take_tot h1 h2).mono fun d ⟨v, e, v0, v1⟩ => ⟨v.toNat, by rw [e, Int.toNat_of_nonneg v0], by omega⟩
theorem repL_succ {α : Type} (x : List α) (k : Nat) : repL x (k + 1) = x ++ repL x k := by
  simp [repL, List.replicate_succ]
theorem repL_len {α : Type} (x : List α) : ∀ k, (repL x k).length = k * x.length
  | 0 => by simp [repL]
  | k + 1 => by rw [repL_succ, List.length_append, repL_len x k, Nat.succ_mul, Nat.add_comm]
theorem rep_get {x : List Nat} : ∀ {k j : Nat}, j < k * x.length → (repL x k).getD j 0 = x.getD (j % x.length) 0
  | 0, j, h => by omega
  | k + 1, j, h => by
    rw [Nat.succ_mul] at h
    rw [repL_succ, List.getD_eq_getElem?_getD, List.getD_eq_getElem?_getD]
    by_cases hj : j < x.length
    · rw [List.getElem?_append_left hj, Nat.mod_eq_of_lt hj]
    · rw [List.getElem?_append_right (by omega), ← List.getD_eq_getElem?_getD, rep_get (k := k) (by omega), ← List.getD_eq_getElem?_getD, Nat.mod_eq_sub_mod (a := j) (by omega)]
theorem rat_rep {x : List Nat} (h0 : 0 < x.length) {k : Nat} (hk : 0 < k) (i : Int) : rat (repL x k) i = rat x i := by
  have hp : 0 < k * x.length := Nat.mul_pos hk h0
  unfold rat
  rw [repL_len]
  have h1 := Int.emod_nonneg i (by omega : ((k * x.length : Nat) : Int) ≠ 0)
  have h2 := Int.emod_lt_of_pos i (by omega : (0 : Int) < ((k * x.length : Nat) : Int))
  rw [rep_get (by omega)]
  congr 1
  have h3 : (i % ((k * x.length : Nat) : Int)) % (x.length : Int) = i % (x.length : Int) := Int.emod_emod_of_dvd _ ⟨(k : Int), by rw [Int.natCast_mul, Int.mul_comm]⟩
  have h4 := Int.emod_nonneg i (by omega : ((x.length : Nat) : Int) ≠ 0)
  have h5 : (((i % ((k * x.length : Nat) : Int)).toNat % x.length : Nat) : Int) = (i % ((k * x.length : Nat) : Int)) % (x.length : Int) := by
    rw [Int.natCast_emod, Int.toNat_of_nonneg h1]
  omega
theorem ring_rep {t : List Nat} {r : Nat} {x : List Nat} (h0 : 0 < x.length) {k : Nat} (hk : 0 < k) : ringL t r (repL x k) = repL (ringL t r x) k := by
  have hp : 0 < k * x.length := Nat.mul_pos hk h0
  refine rat_ext (by rw [ringL_len, repL_len, repL_len, ringL_len]) fun i => ?_
  rw [rat_ring (by rw [repL_len]; exact hp), rat_rep h0 hk, rat_rep h0 hk, rat_rep h0 hk, rat_rep (by rw [ringL_len]; exact h0) hk, rat_ring h0]
theorem turn_rep {x : List Nat} (h0 : 0 < x.length) {k : Nat} (hk : 0 < k) (p : Int) : turnL (repL x k) p = repL (turnL x p) k := by
  have hp : 0 < k * x.length := Nat.mul_pos hk h0
  refine rat_ext (by rw [turnL_len, repL_len, repL_len, turnL_len]) fun i => ?_
  rw [rat_turn (by rw [repL_len]; exact hp), rat_rep h0 hk, rat_rep (by rw [turnL_len]; exact h0) hk, rat_turn h0]
theorem itN_rep {t : List Nat} {r : Nat} {x : List Nat} (h0 : 0 < x.length) {k : Nat} (hk : 0 < k) (n : Nat) : itN (ringL t r) n (repL x k) = repL (itN (ringL t r) n x) k :=
  itN_conj (f := ringL t r) (g := ringL t r) (φ := fun z => repL z k) (fun i => by rw [ring_rep (by rw [itN_ring_len]; exact h0) hk, ← itN_succ (ringL t r)]) n
def Shp (t : List Nat) (r : Nat) (x : List Nat) (p : Int) (q : Nat) : Prop := itN (ringL t r) q x = turnL x p
section
variable {t : List Nat} {r : Nat} {x : List Nat} {p : Int} {q : Nat}
theorem Shp.after (h0 : 0 < x.length) (h : Shp t r x p q) (n : Nat) : Shp t r (itN (ringL t r) n x) p q := by
  unfold Shp at h ⊢
  rw [← itN_add, Nat.add_comm, itN_add, h, itN_turn p n h0]
theorem Shp.turn (h0 : 0 < x.length) (h : Shp t r x p q) (v : Int) : Shp t r (turnL x v) p q := by
  unfold Shp at h ⊢
  rw [itN_turn v q h0, h, turn_turn h0, turn_turn h0, Int.add_comm]
theorem Shp.rep (h0 : 0 < x.length) (h : Shp t r x p q) {k : Nat} (hk : 0 < k) : Shp t r (repL x k) p q := by
  unfold Shp at h ⊢
  rw [itN_rep h0 hk, h, turn_rep h0 hk]
theorem Shp.more (h0 : 0 < x.length) (h : Shp t r x p q) (k : Int) : Shp t r x (p + k * x.length) q := by
  unfold Shp at h ⊢
  rw [h]
  refine turn_mod h0 ?_
  rw [Int.add_mul_emod_self_right]
theorem Shp.add {p2 : Int} {q2 : Nat} (h0 : 0 < x.length) (h : Shp t r x p q) (h2 : Shp t r x p2 q2) : Shp t r x (p + p2) (q + q2) := by
  unfold Shp at h h2 ⊢
  rw [itN_add, h2, itN_turn p2 q h0, h, turn_turn h0]
theorem Shp.mul (h0 : 0 < x.length) (h : Shp t r x p q) : ∀ k : Nat, Shp t r x (p * k) (q * k)
  | 0 => by
    show itN (ringL t r) (q * 0) x = turnL x (p * 0)
    rw [Nat.mul_zero, Int.mul_zero, turn_zero]
    rfl
  | k + 1 => by
    have := (Shp.mul h0 h k).add h0 h
    rw [Nat.mul_succ, Int.natCast_add, Int.mul_add]
    simpa using this
theorem Shp.back (h0 : 0 < x.length) (h : Shp t r x p q) (hq : 0 < q) (n : Nat) : ∃ m, itN (ringL t r) (m + n) x = x := by
  have := h.mul h0 (x.length * n)
  unfold Shp at this
  have hm : n ≤ q * (x.length * n) := by
    have h1 : 1 * (1 * n) ≤ q * (x.length * n) := Nat.mul_le_mul hq (Nat.mul_le_mul h0 (Nat.le_refl n))
    omega
  refine ⟨q * (x.length * n) - n, ?_⟩
  rw [Nat.sub_add_cancel hm, this]
  have e : p * ((x.length * n : Nat) : Int) = 0 + p * n * x.length := by
    rw [Int.natCast_mul, Int.zero_add, Int.mul_comm (x.length : Int), Int.mul_assoc]
  rw [e, turn_mod h0 (Int.add_mul_emod_self_right _ _ _), turn_zero]
end
structure Tel where
  es : List Nat
  s : Nat
  p : Nat
  rs : List Nat
def Tel.has (c : Tel) (n : Nat) : Bool := if n < c.s then decide (n ∈ c.es) else decide (n % c.p ∈ c.rs)
structure Tel.Ok (c : Tel) : Prop where
  s1 : 1 ≤ c.s
  p1 : 1 ≤ c.p
  ea : c.es.Pairwise (· < ·)
  eb : ∀ n ∈ c.es, 1 ≤ n ∧ n < c.s
  ra : c.rs.Pairwise (· < ·)
  rb : ∀ r ∈ c.rs, r < c.p
def clo (p : Nat) (rs : List Nat) (d : Nat) : Bool := rs.all fun r => decide ((r + d) % p ∈ rs)
def divsL (p : Nat) : List Nat := (List.range' 1 p).filter fun d => decide (p % d = 0)
def leastP (p : Nat) (rs : List Nat) : Nat := ((divsL p).filter fun d => clo p rs d).headD p
def fewL (d : Nat) (rs : List Nat) : List Nat := (List.range d).filter fun r => rs.any fun q => decide (q % d = r)
def unL (s : Nat) (es fw : List Nat) (d : Nat) : List Nat := (List.range' 1 (s - 1)).filter fun n => decide (n ∈ es) != decide (n % d ∈ fw)
def firstL : List Nat → Nat
  | [] => 1
  | u :: us => (u :: us).getLast (List.cons_ne_nil _ _) + 1
def Tel.per (c : Tel) : Nat := leastP c.p c.rs
def Tel.few (c : Tel) : List Nat := fewL c.per c.rs
def Tel.first (c : Tel) : Nat := firstL (unL c.s c.es c.few c.per)
def Tel.plain (c : Tel) : Tel := ⟨c.es.filter fun n => decide (n < c.first), c.first, c.per, c.few⟩
theorem divs_mem {p d : Nat} : d ∈ divsL p ↔ 1 ≤ d ∧ d ≤ p ∧ p % d = 0 := by
  unfold divsL
  rw [List.mem_filter, List.mem_range'_1, decide_eq_true_iff]
  omega
theorem clo_self {p : Nat} {rs : List Nat} (h : ∀ r ∈ rs, r < p) : clo p rs p = true := List.all_eq_true.mpr fun r hr => decide_eq_true (by rw [Nat.add_mod_right, Nat.mod_eq_of_lt (h r hr)]; exact hr)
theorem head_min {P : Nat → Bool} : ∀ {l : List Nat} {d0 : Nat}, l.Pairwise (· < ·) → (∃ d ∈ l, P d = true) → (l.filter P).headD d0 ∈ l ∧ P ((l.filter P).headD d0) = true ∧ ∀ d ∈ l, P d = true → (l.filter P).headD d0 ≤ d
  | [], _, _, ⟨d, h, _⟩ => by cases h
  | a :: l, d0, hp, ⟨d, h, hd⟩ => by
    rw [List.pairwise_cons] at hp
    by_cases e : P a = true
    · rw [List.filter_cons_of_pos e]
      refine ⟨List.mem_cons_self, e, fun z hz _ => ?_⟩
      rcases List.mem_cons.mp hz with rfl | hz
      · exact Nat.le_refl _
      · exact Nat.le_of_lt (hp.1 z hz)
    · rw [List.filter_cons_of_neg e]
      have h : d ∈ l := by
        rcases List.mem_cons.mp h with rfl | h
        · exact absurd hd e
        · exact h
      obtain ⟨h1, h2, h3⟩ := head_min (d0 := d0) hp.2 ⟨d, h, hd⟩
      refine ⟨List.mem_cons_of_mem _ h1, h2, fun z hz hz2 => ?_⟩
      rcases List.mem_cons.mp hz with rfl | hz
      · exact absurd hz2 e
      · exact h3 z hz hz2
theorem range1_pw (n : Nat) : (List.range' 1 n).Pairwise (· < ·) := List.pairwise_lt_range'
theorem divs_pw (p : Nat) : (divsL p).Pairwise (· < ·) := (range1_pw p).filter _
theorem leastP_is {p : Nat} {rs : List Nat} (p1 : 1 ≤ p) (h : ∀ r ∈ rs, r < p) : (1 ≤ leastP p rs ∧ leastP p rs ≤ p ∧ p % leastP p rs = 0) ∧ clo p rs (leastP p rs) = true ∧ ∀ d, 1 ≤ d → d ≤ p → p % d = 0 → clo p rs d = true → leastP p rs ≤ d := by
  have hm := head_min (P := fun d => clo p rs d) (l := divsL p) (d0 := p) (divs_pw p) ⟨p, divs_mem.mpr ⟨p1, Nat.le_refl _, Nat.mod_self p⟩, clo_self h⟩
  obtain ⟨h1, h2, h3⟩ := hm
  exact ⟨divs_mem.mp h1, h2, fun d d1 d2 d3 hc => h3 d (divs_mem.mpr ⟨d1, d2, d3⟩) hc⟩
theorem clo_iter {p d : Nat} {rs : List Nat} (h : ∀ r ∈ rs, r < p) (hc : clo p rs d = true) : ∀ k r, r ∈ rs → (r + k * d) % p ∈ rs
  | 0, r, hr => by rw [Nat.zero_mul, Nat.add_zero, Nat.mod_eq_of_lt (h r hr)]; exact hr
  | k + 1, r, hr => by
    have ih := clo_iter h hc k r hr
    have := of_decide_eq_true (List.all_eq_true.mp hc _ ih)
    rwa [Nat.mod_add_mod, Nat.add_assoc, ← Nat.succ_mul] at this
theorem clo_rest {p d : Nat} {rs : List Nat} (p1 : 1 ≤ p) (h : ∀ r ∈ rs, r < p) (d1 : 1 ≤ d) (hd : p % d = 0) (hc : clo p rs d = true) (n : Nat) : n % p ∈ rs ↔ ∃ q ∈ rs, q % d = n % d := by
  obtain ⟨c, hcp⟩ := Nat.dvd_of_mod_eq_zero hd
  have npd : n % p % d = n % d := by rw [hcp, Nat.mod_mul_right_mod]
  constructor
  · intro hn
    exact ⟨n % p, hn, npd⟩
  · rintro ⟨q, hq, e⟩
    have hqp := h q hq
    have hnp := Nat.mod_lt n (show p > 0 by omega)
    have e2 : q % d = n % p % d := by rw [npd, e]
    -- from q on by steps of d round p one comes to n % p
    have k : ∃ k, (q + k * d) % p = n % p := by
      have a1 := Nat.div_add_mod q d
      have a2 := Nat.div_add_mod (n % p) d
      refine ⟨(n % p) / d + c * 1 * (q / d + 1) - q / d, ?_⟩
      have hc1 : 1 ≤ c := by
        rcases Nat.eq_zero_or_pos c with z | z
        · rw [z] at hcp; omega
        · exact z
      have hle : q / d ≤ (n % p) / d + c * 1 * (q / d + 1) := by
        have : q / d + 1 ≤ c * 1 * (q / d + 1) := by
          rw [Nat.mul_one]
          exact Nat.le_mul_of_pos_left _ hc1
        exact Nat.le_trans (Nat.le_succ _) (Nat.le_trans this (Nat.le_add_left _ _))
      have key : q + ((n % p) / d + c * 1 * (q / d + 1) - q / d) * d = n % p + p * (q / d + 1) := by
        rw [Nat.sub_mul, Nat.add_mul, Nat.mul_one]
        have b1 : q / d * d ≤ (n % p) / d * d + c * (q / d + 1) * d := by
          have := Nat.mul_le_mul_right d hle
          rwa [Nat.add_mul, Nat.mul_one] at this
        have b2 : c * (q / d + 1) * d = p * (q / d + 1) := by
          rw [hcp, Nat.mul_assoc, Nat.mul_comm _ d, ← Nat.mul_assoc, Nat.mul_comm c d]
        rw [b2] at b1 ⊢
        rw [Nat.mul_comm (q / d) d] at b1 ⊢
        rw [Nat.mul_comm ((n % p) / d) d] at b1 ⊢
        clear b2 hle npd hnp hqp hcp
        generalize p * (q / d + 1) = Z at b1 ⊢
        generalize d * (q / d) = Y at a1 b1 ⊢
        generalize d * (n % p / d) = W at a2 b1 ⊢
        omega
      rw [key, Nat.add_mul_mod_self_left, Nat.mod_eq_of_lt hnp]
    obtain ⟨k, hk⟩ := k
    rw [← hk]
    exact clo_iter h hc k q hq
theorem few_mem {d r : Nat} {rs : List Nat} : r ∈ fewL d rs ↔ r < d ∧ ∃ q ∈ rs, q % d = r := by
  unfold fewL
  rw [List.mem_filter, List.mem_range, List.any_eq_true]
  constructor
  · rintro ⟨h1, q, h2, h3⟩; exact ⟨h1, q, h2, of_decide_eq_true h3⟩
  · rintro ⟨h1, q, h2, h3⟩; exact ⟨h1, q, h2, decide_eq_true h3⟩
theorem few_pw (d : Nat) (rs : List Nat) : (fewL d rs).Pairwise (· < ·) := List.Pairwise.filter _ List.pairwise_lt_range
theorem Tel.rest {c : Tel} (h : c.Ok) (n : Nat) : n % c.p ∈ c.rs ↔ n % c.per ∈ c.few := by
  obtain ⟨⟨d1, d2, d3⟩, hc, _⟩ := leastP_is h.p1 h.rb
  rw [clo_rest h.p1 h.rb d1 d3 hc n]
  unfold Tel.few
  rw [few_mem]
  exact ⟨fun ⟨q, h1, h2⟩ => ⟨Nat.mod_lt _ d1, q, h1, h2⟩, fun ⟨_, q, h1, h2⟩ => ⟨q, h1, h2⟩⟩
theorem un_mem {s d n : Nat} {es fw : List Nat} : n ∈ unL s es fw d ↔ 1 ≤ n ∧ n < s ∧ ¬ (n ∈ es ↔ n % d ∈ fw) := by
  unfold unL
  rw [List.mem_filter, List.mem_range'_1]
  have e : (decide (n ∈ es) != decide (n % d ∈ fw)) = true ↔ ¬ (n ∈ es ↔ n % d ∈ fw) := by
    by_cases a : n ∈ es <;> by_cases b : n % d ∈ fw <;> simp [a, b]
  rw [e]
  constructor
  · rintro ⟨⟨h1, h2⟩, h3⟩; exact ⟨h1, by omega, h3⟩
  · rintro ⟨h1, h2, h3⟩; exact ⟨⟨h1, by omega⟩, h3⟩
theorem firstL_is {l : List Nat} (h : l.Pairwise (· < ·)) : 1 ≤ firstL l ∧ (∀ n ∈ l, n < firstL l) ∧ (firstL l = 1 ∨ firstL l - 1 ∈ l) := by
  cases l with
  | nil => exact ⟨Nat.le_refl _, (fun n hn => by cases hn), .inl rfl⟩
  | cons u us =>
    refine ⟨Nat.le_add_left _ _, fun n hn => ?_, .inr (by show _ + 1 - 1 ∈ _; rw [Nat.add_sub_cancel]; exact List.getLast_mem _)⟩
    show n < (u :: us).getLast _ + 1
    have : ∀ {l : List Nat} (hl : l ≠ []), l.Pairwise (· < ·) → ∀ n ∈ l, n ≤ l.getLast hl := by
      intro l hl hp n hn
      induction l with
      | nil => cases hn
      | cons a l ih =>
        rw [List.pairwise_cons] at hp
        cases l with
        | nil => rw [List.mem_singleton.mp hn]; exact Nat.le_refl _
        | cons b l =>
          rw [List.getLast_cons (List.cons_ne_nil _ _)]
          rcases List.mem_cons.mp hn with rfl | hn
          · exact Nat.le_of_lt (hp.1 _ (List.getLast_mem _))
          · exact ih _ hp.2 hn
    exact Nat.lt_succ_of_le (this _ h n hn)
theorem Tel.first_is {c : Tel} : 1 ≤ c.first ∧ (∀ n ∈ unL c.s c.es c.few c.per, n < c.first) ∧ (c.first = 1 ∨ c.first - 1 ∈ unL c.s c.es c.few c.per) := firstL_is ((range1_pw _).filter _)
theorem Tel.has_rest {c : Tel} (h : c.Ok) {n : Nat} (hn : c.first ≤ n) : c.has n = decide (n % c.per ∈ c.few) := by
  obtain ⟨f1, f2, _⟩ := c.first_is
  unfold Tel.has
  by_cases e : n < c.s
  · rw [if_pos e]
    by_cases z : n ∈ c.es ↔ n % c.per ∈ c.few
    · exact decide_eq_decide.mpr z
    · have := f2 n (un_mem.mpr ⟨by omega, e, z⟩)
      omega
  · rw [if_neg e]
    exact decide_eq_decide.mpr (c.rest h n)
theorem Tel.first_le {c : Tel} (h : c.Ok) : c.first ≤ c.s := by
  obtain ⟨f1, f2, f3⟩ := c.first_is
  rcases f3 with e | e
  · rw [e]; exact h.s1
  · have := (un_mem.mp e).2.1
    omega
theorem Tel.plain_ok {c : Tel} (h : c.Ok) : c.plain.Ok := by
  obtain ⟨⟨d1, d2, d3⟩, hc, _⟩ := leastP_is h.p1 h.rb
  refine ⟨c.first_is.1, d1, h.ea.filter _, fun n hn => ?_, few_pw _ _, fun r hr => (few_mem.mp hr).1⟩
  obtain ⟨h1, h2⟩ := List.mem_filter.mp hn
  exact ⟨(h.eb n h1).1, of_decide_eq_true h2⟩
theorem Tel.plain_has {c : Tel} (h : c.Ok) (n : Nat) : c.plain.has n = c.has n := by
  by_cases e : n < c.first
  · have e2 := Nat.lt_of_lt_of_le e (c.first_le h)
    unfold Tel.has
    rw [if_pos (show n < c.plain.s from e), if_pos e2]
    refine decide_eq_decide.mpr ?_
    show n ∈ c.es.filter _ ↔ _
    rw [List.mem_filter, decide_eq_true_iff]
    exact ⟨fun q => q.1, fun q => ⟨q, e⟩⟩
  · rw [c.has_rest h (by omega)]
    unfold Tel.has
    rw [if_neg (show ¬ n < c.plain.s from e)]
    rfl
def Evp (f : Nat → Bool) (m : Nat) : Prop := ∃ N, ∀ n, N ≤ n → f (n + m) = f n
theorem Evp.mul {f : Nat → Bool} {m : Nat} (h : Evp f m) (k : Nat) : Evp f (k * m) := by
  obtain ⟨N, hN⟩ := h
  refine ⟨N, fun n hn => ?_⟩
  induction k with
  | zero => rw [Nat.zero_mul, Nat.add_zero]
  | succ k ih => rw [Nat.succ_mul, ← Nat.add_assoc, hN _ (by omega), ih]
theorem Evp.sub {f : Nat → Bool} {a b : Nat} (h : Evp f (a + b)) (g : Evp f b) : Evp f a := by
  obtain ⟨N, hN⟩ := h
  obtain ⟨M, hM⟩ := g
  exact ⟨N + M, fun n hn => by rw [← hN n (by omega), ← Nat.add_assoc, hM (n + a) (by omega)]⟩
theorem Evp.gcd {f : Nat → Bool} : ∀ {a b : Nat}, Evp f a → Evp f b → Evp f (Nat.gcd a b) := by
  intro a b
  induction a, b using Nat.gcd.induction with
  | H0 b => intro _ h; rwa [Nat.gcd_zero_left]
  | H1 a b ha ih =>
    intro h g
    rw [Nat.gcd_rec]
    refine ih ?_ h
    have e : b % a + b / a * a = b := by rw [Nat.mul_comm]; exact Nat.mod_add_div b a
    exact Evp.sub (b := b / a * a) (by rw [e]; exact g) (h.mul _)
theorem Tel.evp_p {c : Tel} : Evp c.has c.p := ⟨c.s, fun n hn => by
  unfold Tel.has
  rw [if_neg (by omega), if_neg (by omega), Nat.add_mod_right]⟩
theorem Tel.evp_clo {c : Tel} (h : c.Ok) {d : Nat} (hd : Evp c.has d) : clo c.p c.rs d = true := by
  obtain ⟨N, hN⟩ := hd
  refine List.all_eq_true.mpr fun r hr => decide_eq_true ?_
  have hr2 := h.rb r hr
  -- a late number that leaves r
  have z : ∃ n, N + c.s ≤ n ∧ n % c.p = r := ⟨r + (N + c.s) * c.p, by
    have := Nat.le_mul_of_pos_right (N + c.s) (show 0 < c.p from h.p1)
    omega, by rw [Nat.add_mul_mod_self_right, Nat.mod_eq_of_lt hr2]⟩
  obtain ⟨n, hn, e⟩ := z
  have q := hN n (by omega)
  unfold Tel.has at q
  rw [if_neg (by omega), if_neg (by omega)] at q
  have q2 := decide_eq_decide.mp q
  rw [← e, Nat.mod_add_mod]
  exact q2.mpr (by rw [e]; exact hr)
theorem Tel.clo_evp {c : Tel} (h : c.Ok) {d : Nat} (d1 : 1 ≤ d) (hd : c.p % d = 0) (hc : clo c.p c.rs d = true) : Evp c.has d := ⟨c.s, fun n hn => by
  unfold Tel.has
  rw [if_neg (by omega), if_neg (by omega)]
  refine decide_eq_decide.mpr ?_
  rw [clo_rest h.p1 h.rb d1 hd hc, clo_rest h.p1 h.rb d1 hd hc, Nat.add_mod_right]⟩
theorem Tel.per_min {c : Tel} (h : c.Ok) : Evp c.has c.per ∧ 1 ≤ c.per ∧ ∀ m, 1 ≤ m → Evp c.has m → c.per ≤ m := by
  obtain ⟨⟨d1, d2, d3⟩, hc, hmin⟩ := leastP_is h.p1 h.rb
  refine ⟨c.clo_evp h d1 d3 hc, d1, fun m m1 hm => ?_⟩
  have g := hm.gcd (c.evp_p)
  have g1 : 1 ≤ Nat.gcd m c.p := Nat.gcd_pos_of_pos_left _ m1
  have g2 : Nat.gcd m c.p ≤ c.p := Nat.le_of_dvd h.p1 (Nat.gcd_dvd_right _ _)
  have g3 : Nat.gcd m c.p ≤ m := Nat.le_of_dvd m1 (Nat.gcd_dvd_left _ _)
  exact Nat.le_trans (hmin _ g1 g2 (Nat.mod_eq_zero_of_dvd (Nat.gcd_dvd_right _ _)) (c.evp_clo h g)) g3
theorem pwN_ext : ∀ {a b : List Nat}, a.Pairwise (· < ·) → b.Pairwise (· < ·) → (∀ n, n ∈ a ↔ n ∈ b) → a = b
  | [], [], _, _, _ => rfl
  | [], y :: b, _, _, h => by have := (h y).mpr List.mem_cons_self; cases this
  | x :: a, [], _, _, h => by have := (h x).mp List.mem_cons_self; cases this
  | x :: a, y :: b, ha, hb, h => by
    rw [List.pairwise_cons] at ha hb
    have e : x = y := by
      rcases List.mem_cons.mp ((h x).mp List.mem_cons_self) with e | e
      · exact e
      · rcases List.mem_cons.mp ((h y).mpr List.mem_cons_self) with e2 | e2
        · exact e2.symm
        · have := ha.1 y e2; have := hb.1 x e; omega
    subst e
    rw [pwN_ext ha.2 hb.2 fun n => ?_]
    constructor
    · intro hn
      rcases List.mem_cons.mp ((h n).mp (List.mem_cons_of_mem _ hn)) with e | e
      · have := ha.1 n hn; omega
      · exact e
    · intro hn
      rcases List.mem_cons.mp ((h n).mpr (List.mem_cons_of_mem _ hn)) with e | e
      · have := hb.1 n hn; omega
      · exact e
theorem Tel.few_iff {c : Tel} (h : c.Ok) (r : Nat) : r ∈ c.few ↔ r < c.per ∧ ∃ N, ∀ n, N ≤ n → n % c.per = r → c.has n = true := by
  have p1 := (c.per_min h).2.1
  constructor
  · intro hr
    refine ⟨(few_mem.mp hr).1, c.first, fun n hn e => ?_⟩
    rw [c.has_rest h hn, e]
    exact decide_eq_true hr
  · rintro ⟨hr, N, hN⟩
    have e : (r + (N + c.first) * c.per) % c.per = r := by rw [Nat.add_mul_mod_self_right, Nat.mod_eq_of_lt hr]
    have le := Nat.le_mul_of_pos_right (N + c.first) (show 0 < c.per from p1)
    have q := hN _ (by omega) e
    rw [c.has_rest h (by omega), e] at q
    exact of_decide_eq_true q
theorem Tel.uniq {c d : Tel} (hc : c.Ok) (hd : d.Ok) (h : ∀ n, 1 ≤ n → c.has n = d.has n) : c.plain = d.plain := by
  have ev : ∀ {m}, Evp c.has m ↔ Evp d.has m := fun {m} => ⟨fun ⟨N, hN⟩ => ⟨N + 1, fun n hn => by rw [← h _ (by omega), ← h _ (by omega)]; exact hN n (by omega)⟩, fun ⟨N, hN⟩ => ⟨N + 1, fun n hn => by rw [h _ (by omega), h _ (by omega)]; exact hN n (by omega)⟩⟩
  obtain ⟨c1, c2, c3⟩ := c.per_min hc
  obtain ⟨d1, d2, d3⟩ := d.per_min hd
  have ep : c.per = d.per := Nat.le_antisymm (c3 _ d2 (ev.mpr d1)) (d3 _ c2 (ev.mp c1))
  have ef : c.few = d.few := pwN_ext (few_pw _ _) (few_pw _ _) fun r => by
    rw [c.few_iff hc, d.few_iff hd, ep]
    refine and_congr_right fun _ => ⟨fun ⟨N, hN⟩ => ⟨N + 1, fun n hn e => by rw [← h n (by omega)]; exact hN n (by omega) e⟩, fun ⟨N, hN⟩ => ⟨N + 1, fun n hn e => by rw [h n (by omega)]; exact hN n (by omega) e⟩⟩
  have le : ∀ {c d : Tel}, c.Ok → d.Ok → (∀ n, 1 ≤ n → c.has n = d.has n) → c.per = d.per → c.few = d.few → c.first ≤ d.first := by
    intro c d hc hd h ep ef
    obtain ⟨f1, f2, f3⟩ := c.first_is
    rcases Nat.lt_or_ge d.first c.first with z | z
    · have g1 := d.first_is.1
      rcases f3 with e | e
      · omega
      · obtain ⟨u1, u2, u3⟩ := un_mem.mp e
        refine absurd ?_ u3
        have q := d.has_rest hd (n := c.first - 1) (by omega)
        rw [← h _ u1, ← ep, ← ef] at q
        unfold Tel.has at q
        rw [if_pos u2] at q
        exact decide_eq_decide.mp q
    · exact z
  have e1 : c.first = d.first := Nat.le_antisymm (le hc hd h ep ef) (le hd hc (fun n hn => (h n hn).symm) ep.symm ef.symm)
  have ee : (c.es.filter fun n => decide (n < c.first)) = d.es.filter fun n => decide (n < d.first) := pwN_ext (hc.ea.filter _) (hd.ea.filter _) fun n => by
    rw [List.mem_filter, List.mem_filter, decide_eq_true_iff, decide_eq_true_iff, ← e1]
    have one : ∀ {c d : Tel}, c.Ok → d.Ok → (∀ n, 1 ≤ n → c.has n = d.has n) → c.first = d.first → n ∈ c.es ∧ n < c.first → n ∈ d.es ∧ n < c.first := by
      rintro c d hc hd h e1 ⟨q1, q2⟩
      have n1 := (hc.eb n q1).1
      have q := h n n1
      unfold Tel.has at q
      rw [if_pos (Nat.lt_of_lt_of_le q2 (c.first_le hc)), if_pos (Nat.lt_of_lt_of_le (by rw [← e1]; exact q2) (d.first_le hd))] at q
      exact ⟨(decide_eq_decide.mp q).mp q1, q2⟩
    refine ⟨one hc hd h e1, fun q => ?_⟩
    have := one hd hc (fun n hn => (h n hn).symm) e1.symm (by rw [← e1]; exact q)
    rw [e1]
    exact this
  show (⟨_, _, _, _⟩ : Tel) = ⟨_, _, _, _⟩
  rw [ee, e1, ep, ef]
def tabL (st : List Nat) : Nat → List Bool
  | 0 => [true]
  | n + 1 => tabL st n ++ [st.any fun s => decide (s ≤ n + 1) && (tabL st n).getD (n + 1 - s) false]
theorem tab_len (st : List Nat) : ∀ n, (tabL st n).length = n + 1
  | 0 => rfl
  | n + 1 => by show (tabL st n ++ _).length = _; rw [List.length_append, tab_len st n]; rfl
def reach (st : List Nat) (n : Nat) : Bool := (tabL st n).getD n false
theorem tab_get (st : List Nat) : ∀ {m n : Nat}, m ≤ n → (tabL st n).getD m false = reach st m
  | m, 0, h => by
    have : m = 0 := by omega
    subst this; rfl
  | m, n + 1, h => by
    by_cases e : m = n + 1
    · subst e; rfl
    · have hm : m ≤ n := by omega
      have hl := tab_len st n
      show (tabL st n ++ [_]).getD m false = _
      rw [List.getD_eq_getElem?_getD, List.getElem?_append_left (by omega), ← List.getD_eq_getElem?_getD]
      exact tab_get st hm
theorem reach_succ {st : List Nat} (h : ∀ s ∈ st, 1 ≤ s) (n : Nat) : reach st (n + 1) = st.any fun s => decide (s ≤ n + 1) && reach st (n + 1 - s) := by
  have hl := tab_len st n
  show (tabL st n ++ [st.any fun s => decide (s ≤ n + 1) && (tabL st n).getD (n + 1 - s) false]).getD (n + 1) false = _
  rw [List.getD_eq_getElem?_getD, List.getElem?_append_right (by omega), hl, Nat.sub_self]
  show (st.any fun s => decide (s ≤ n + 1) && (tabL st n).getD (n + 1 - s) false) = _
  rw [Bool.eq_iff_iff, List.any_eq_true, List.any_eq_true]
  have one : ∀ s ∈ st, (tabL st n).getD (n + 1 - s) false = reach st (n + 1 - s) := fun s hs => tab_get st (by have := h s hs; omega)
  constructor
  · rintro ⟨s, hs, q⟩; exact ⟨s, hs, by rw [← one s hs]; exact q⟩
  · rintro ⟨s, hs, q⟩; exact ⟨s, hs, by rw [one s hs]; exact q⟩
theorem reach_iff {st : List Nat} (h : ∀ s ∈ st, 1 ≤ s) : ∀ n, reach st n = true ↔ ∃ L : List Nat, (∀ s ∈ L, s ∈ st) ∧ L.sum = n := by
  intro n
  induction n using Nat.strongRecOn with
  | ind n ih =>
    cases n with
    | zero => exact ⟨fun _ => ⟨[], (fun s hs => by cases hs), rfl⟩, fun _ => rfl⟩
    | succ n =>
      rw [reach_succ h, List.any_eq_true]
      constructor
      · rintro ⟨s, hs, q⟩
        rw [Bool.and_eq_true, decide_eq_true_iff] at q
        have s1 := h s hs
        obtain ⟨L, hL, e⟩ := (ih (n + 1 - s) (by omega)).mp q.2
        refine ⟨s :: L, fun z hz => ?_, ?_⟩
        · rcases List.mem_cons.mp hz with rfl | hz
          · exact hs
          · exact hL z hz
        · rw [List.sum_cons, e]; omega
      · rintro ⟨L, hL, e⟩
        cases L with
        | nil => cases e
        | cons s L =>
          rw [List.sum_cons] at e
          have hs := hL s List.mem_cons_self
          have s1 := h s hs
          refine ⟨s, hs, ?_⟩
          rw [Bool.and_eq_true, decide_eq_true_iff]
          exact ⟨by omega, (ih (n + 1 - s) (by omega)).mpr ⟨L, fun z hz => hL z (List.mem_cons_of_mem _ hz), by omega⟩⟩
theorem sumN_dvd {g : Nat} : ∀ {L : List Nat}, (∀ s ∈ L, g ∣ s) → g ∣ L.sum
  | [], _ => Nat.dvd_zero g
  | s :: L, h => by
    rw [List.sum_cons]
    exact Nat.dvd_add (h s List.mem_cons_self) (sumN_dvd fun z hz => h z (List.mem_cons_of_mem _ hz))
theorem sum_le {b : Nat} : ∀ {L : List Nat}, (∀ s ∈ L, s ≤ b) → L.sum ≤ L.length * b
  | [], _ => Nat.zero_le _
  | s :: L, h => by
    rw [List.sum_cons, List.length_cons, Nat.succ_mul, Nat.add_comm]
    exact Nat.add_le_add (sum_le fun z hz => h z (List.mem_cons_of_mem _ hz)) (h s List.mem_cons_self)
def ZZ (st : List Nat) (a n : Nat) : Prop := ∃ L : List Nat, (∀ s ∈ L, s ∈ st) ∧ L.sum % a = n % a
theorem zz_add {st : List Nat} {a s n : Nat} (hs : s ∈ st) : ∀ k, ZZ st a n → ZZ st a (n + k * s)
  | 0, h => by rwa [Nat.zero_mul, Nat.add_zero]
  | k + 1, h => by
    obtain ⟨L, hL, e⟩ := zz_add hs k h
    refine ⟨s :: L, fun z hz => ?_, ?_⟩
    · rcases List.mem_cons.mp hz with rfl | hz
      · exact hs
      · exact hL z hz
    · rw [List.sum_cons, Nat.succ_mul, ← Nat.add_assoc, Nat.add_comm s, Nat.add_mod, e, ← Nat.add_mod]
theorem zz_per {st : List Nat} {a s n : Nat} (a1 : 1 ≤ a) (hs : s ∈ st) : ZZ st a (n + s) ↔ ZZ st a n := by
  constructor
  · intro h
    obtain ⟨L, hL, e⟩ := zz_add hs (a - 1) h
    refine ⟨L, hL, ?_⟩
    rw [e, Nat.add_assoc, show s + (a - 1) * s = a * s by
      obtain ⟨c, rfl⟩ : ∃ c, a = c + 1 := ⟨a - 1, by omega⟩
      rw [Nat.add_sub_cancel, Nat.succ_mul, Nat.add_comm], Nat.add_mul_mod_self_left]
  · intro h
    have := zz_add hs 1 h
    rwa [Nat.one_mul] at this
def PZ (st : List Nat) (a m : Nat) : Prop := ∀ n, ZZ st a (n + m) ↔ ZZ st a n
theorem PZ.mul {st : List Nat} {a m : Nat} (h : PZ st a m) : ∀ k, PZ st a (k * m)
  | 0, n => by rw [Nat.zero_mul, Nat.add_zero]
  | k + 1, n => by rw [Nat.succ_mul, ← Nat.add_assoc, h, PZ.mul h k]
theorem PZ.sub {st : List Nat} {a x y : Nat} (h : PZ st a (x + y)) (g : PZ st a y) : PZ st a x := fun n => by
  rw [← g (n + x), Nat.add_assoc, h]
theorem PZ.gcd {st : List Nat} {a : Nat} : ∀ {x y : Nat}, PZ st a x → PZ st a y → PZ st a (Nat.gcd x y) := by
  intro x y
  induction x, y using Nat.gcd.induction with
  | H0 b => intro _ h; rwa [Nat.gcd_zero_left]
  | H1 x b ha ih =>
    intro h g
    rw [Nat.gcd_rec]
    refine ih ?_ h
    have e : b % x + b / x * x = b := by rw [Nat.mul_comm]; exact Nat.mod_add_div b x
    exact PZ.sub (y := b / x * x) (by rw [e]; exact g) (h.mul _)
def gcdL : List Nat → Nat
  | [] => 0
  | s :: L => Nat.gcd s (gcdL L)
theorem gcdL_dvd : ∀ {L : List Nat} {s : Nat}, s ∈ L → gcdL L ∣ s
  | z :: L, s, h => by
    rcases List.mem_cons.mp h with rfl | h
    · exact Nat.gcd_dvd_left _ _
    · exact Nat.dvd_trans (Nat.gcd_dvd_right _ _) (gcdL_dvd h)
theorem pz_gcdL {st : List Nat} {a : Nat} (a1 : 1 ≤ a) : ∀ {L : List Nat}, (∀ s ∈ L, s ∈ st) → PZ st a (gcdL L)
  | [], _ => fun n => by show ZZ st a (n + 0) ↔ _; rw [Nat.add_zero]
  | s :: L, h => PZ.gcd (fun n => zz_per a1 (h s List.mem_cons_self)) (pz_gcdL a1 fun z hz => h z (List.mem_cons_of_mem _ hz))
theorem nd_le : ∀ {n : Nat} {S : List Nat}, S.Nodup → (∀ s ∈ S, s < n) → S.length ≤ n
  | 0, [], _, _ => Nat.le_refl 0
  | 0, s :: S, _, h => absurd (h s List.mem_cons_self) (Nat.not_lt_zero s)
  | n + 1, S, nd, h => by
    have h1 : (S.erase n).length ≤ n := nd_le (nd.erase n) fun s hs => by
      have hm := (List.Nodup.mem_erase_iff nd).mp hs
      have := h s hm.2
      have := hm.1
      omega
    by_cases hn : n ∈ S
    · rw [List.length_erase_of_mem hn] at h1
      omega
    · rw [List.erase_of_not_mem hn] at h1
      omega
theorem two_same {f : Nat → Nat} {a : Nat} (h : ∀ i, f i < a) : ∃ i j, i < j ∧ j ≤ a ∧ f i = f j := by
  by_cases e : ∃ i j, i < j ∧ j ≤ a ∧ f i = f j
  · exact e
  · have nd : ((List.range (a + 1)).map f).Nodup := by
      rw [List.nodup_iff_pairwise_ne, List.pairwise_map]
      refine List.Pairwise.imp_of_mem ?_ List.pairwise_lt_range
      intro i j hi hj hij z
      exact e ⟨i, j, hij, by have := List.mem_range.mp hj; omega, z⟩
    have := nd_le (n := a) nd fun s hs => by
      obtain ⟨i, _, rfl⟩ := List.mem_map.mp hs
      exact h i
    rw [List.length_map, List.length_range] at this
    omega
theorem short_steps {st : List Nat} {a : Nat} (a1 : 1 ≤ a) : ∀ (k : Nat) {L : List Nat}, L.length ≤ k → (∀ s ∈ L, s ∈ st) → ∃ M : List Nat, (∀ s ∈ M, s ∈ st) ∧ M.length < a ∧ M.sum % a = L.sum % a
  | 0, L, hk, hL => by
    have : L = [] := List.length_eq_zero_iff.mp (by omega)
    subst this
    exact ⟨[], hL, by show 0 < a; omega, rfl⟩
  | k + 1, L, hk, hL => by
    by_cases e : L.length < a
    · exact ⟨L, hL, e, rfl⟩
    · obtain ⟨i, j, hij, hj, q⟩ := two_same (f := fun i => (L.take i).sum % a) (a := a) fun i => Nat.mod_lt _ (by omega)
      have q : (L.take i).sum % a = (L.take j).sum % a := q
      obtain ⟨M, h1, h2, h3⟩ := short_steps a1 k (L := L.take i ++ L.drop j) (by rw [List.length_append, List.length_take, List.length_drop]; omega) (fun s hs => by
        rcases List.mem_append.mp hs with h | h
        · exact hL s (List.mem_of_mem_take h)
        · exact hL s (List.mem_of_mem_drop h))
      refine ⟨M, h1, h2, ?_⟩
      rw [h3, List.sum_append, Nat.add_mod, q, ← Nat.add_mod, ← List.sum_append, List.take_append_drop]
theorem reach_far {st : List Nat} {a b n : Nat} (h : ∀ s ∈ st, 1 ≤ s) (ha : a ∈ st) (hb : ∀ s ∈ st, s ≤ b) (hg : gcdL st ∣ n) (hn : a * b ≤ n) : reach st n = true := by
  have a1 := h a ha
  have z : ZZ st a n := by
    obtain ⟨k, rfl⟩ := hg
    have := (pz_gcdL (st := st) a1 (fun s hs => hs)).mul k 0
    rw [Nat.zero_add, Nat.mul_comm] at this
    exact this.mpr ⟨[], (fun s hs => by cases hs), rfl⟩
  obtain ⟨L, hL, e⟩ := z
  obtain ⟨M, h1, h2, h3⟩ := short_steps a1 L.length (Nat.le_refl _) hL
  have le : M.sum ≤ n := by
    refine Nat.le_trans (sum_le fun s hs => hb s (h1 s hs)) (Nat.le_trans ?_ hn)
    exact Nat.mul_le_mul_right b (Nat.le_of_lt h2)
  have em : (n - M.sum) % a = 0 := Nat.sub_mod_eq_zero_of_mod_eq (by rw [h3, e])
  obtain ⟨c, hc⟩ := Nat.dvd_of_mod_eq_zero em
  rw [reach_iff h]
  refine ⟨M ++ List.replicate c a, fun s hs => ?_, ?_⟩
  · rcases List.mem_append.mp hs with q | q
    · exact h1 s q
    · rw [List.eq_of_mem_replicate q]; exact ha
  · rw [List.sum_append, List.sum_replicate_nat, Nat.mul_comm]
    omega
theorem reach_dvd {st : List Nat} {n : Nat} (h : ∀ s ∈ st, 1 ≤ s) (hr : reach st n = true) : gcdL st ∣ n := by
  obtain ⟨L, hL, rfl⟩ := (reach_iff h n).mp hr
  exact sumN_dvd fun s hs => gcdL_dvd (hL s hs)
def Hts (h : Int → Int) : Prop := ∀ i, -1 ≤ h (i + 1) - h i ∧ h (i + 1) - h i ≤ 1
def up (h : Int → Int) (i : Int) : Int := if h i % 3 = 0 ∧ h (i - 1) ≤ h i ∧ h (i + 1) ≤ h i then h i else h i + 1
def upN (h : Int → Int) : Nat → Int → Int
  | 0 => h
  | t + 1 => up (upN h t)
theorem Hts.back {h : Int → Int} (H : Hts h) (i : Int) : -1 ≤ h i - h (i - 1) ∧ h i - h (i - 1) ≤ 1 := by
  have := H (i - 1)
  rwa [show i - 1 + 1 = i by omega] at this
theorem up_hts {h : Int → Int} (H : Hts h) : Hts (up h) := fun i => by
  have h1 := H i
  have h2 := H.back i
  have h3 := H (i + 1)
  unfold up
  rw [show i + 1 - 1 = i by omega]
  split <;> split <;> omega
def rd (n : Nat) (s o : Int) : Int := min ((s - o).natAbs : Int) (n - ((s - o).natAbs : Int))
def stp (r a b : Nat) : Int := if ((b : Int) - (a : Int)) % ((r : Int) + 2) = (r : Int) + 1 then -1 else ((b : Int) - (a : Int)) % ((r : Int) + 2)
def stA (r : Nat) (x : List Nat) (k : Nat) : Int := stp r (x.getD k 0) (x.getD ((k + 1) % x.length) 0)
def stL (r : Nat) (x : List Nat) : List Int := (List.range x.length).map (stA r x)
def cum (r : Nat) (x : List Nat) : Nat → Int
  | 0 => 0
  | k + 1 => cum r x k + stA r x k
def rnd (r : Nat) (x : List Nat) : Int := (stL r x).sum / ((r : Int) + 2)
def hgt (r : Nat) (x : List Nat) (i : Int) : Int := (x.getD 0 0 : Int) - 48 + cum r x (i % (x.length : Int)).toNat + ((r : Int) + 2) * (rnd r x * (i / (x.length : Int)))
abbrev pT : List Nat := [48, 49, 49, 49]
def Rep (x : List Nat) (h : Int → Int) : Prop := Hts h ∧ ∀ i, (rat x i : Int) = 48 + h i % 3
theorem sgn_p (a b c : Nat) : sgn pT 1 a b c = if b = 48 then (if a = 49 ∨ c = 49 then 49 else 48) else if b = 50 then 48 else b + 1 := by
  unfold sgn
  by_cases ha : a = 49 <;> by_cases hc : c = 49 <;> simp [ha, hc]
theorem Rep.ring {x : List Nat} {h : Int → Int} (R : Rep x h) (h0 : 0 < x.length) : Rep (ringL pT 1 x) (up h) := by
  refine ⟨up_hts R.1, fun i => ?_⟩
  rw [rat_ring h0, sgn_p]
  have r1 := R.2 (i - 1)
  have r2 := R.2 i
  have r3 := R.2 (i + 1)
  have s1 := R.1 i
  have s2 := R.1.back i
  unfold up
  split
  · split
    · split <;> omega
    · split <;> omega
  · split
    · split <;> omega
    · split <;> omega
theorem Rep.run {x : List Nat} {h : Int → Int} (R : Rep x h) (h0 : 0 < x.length) : ∀ t, Rep (itN (ringL pT 1) t x) (upN h t)
  | 0 => R
  | t + 1 => by
    rw [itN_succ]
    exact (R.run h0 t).ring (by rw [itN_ring_len]; exact h0)
theorem Rep.turn {x : List Nat} {h : Int → Int} (R : Rep x h) (h0 : 0 < x.length) (p : Int) : Rep (turnL x p) (fun i => h (i - p)) := by
  refine ⟨fun i => ?_, fun i => ?_⟩
  · have := R.1 (i - p)
    simp only [show i + 1 - p = i - p + 1 by omega]
    exact this
  · rw [rat_turn h0]
    exact R.2 _
theorem Rep.eq {x y : List Nat} {h g : Int → Int} (R : Rep x h) (S : Rep y g) (hl : x.length = y.length) (e : ∀ i, h i % 3 = g i % 3) : x = y := by
  refine rat_ext hl fun i => ?_
  have r1 := R.2 i
  have r2 := S.2 i
  have := e i
  omega
theorem inF_ints {α : Type} (neg : Bool) (i : Int) (f : α → Int) (l : List α) : inF neg (.int i) (.lst (l.map fun a => D.int (f a))) = M.ret (.bl (if neg then !decide (i ∈ l.map f) else decide (i ∈ l.map f))) := by
  have hf : (flatD (.int i) && (l.map fun a => D.int (f a)).all flatD) = true := by simp [flatD]
  have e : ((l.map fun a => D.int (f a)).any fun y => eqF y (.int i)) = decide (i ∈ l.map f) := by
    rw [Bool.eq_iff_iff, List.any_map, List.any_eq_true, decide_eq_true_iff, List.mem_map]
    constructor
    · rintro ⟨a, ha, h⟩
      exact ⟨a, ha, by simpa [eqF] using h⟩
    · rintro ⟨a, ha, h⟩
      exact ⟨a, ha, by simpa [eqF] using h⟩
  have e2 : inF neg (.int i) (.lst (l.map fun a => D.int (f a))) = M.guard (flatD (.int i) && (l.map fun a => D.int (f a)).all flatD) (M.ret (.bl (if neg then !(l.map fun a => D.int (f a)).any fun y => eqF y (.int i) else (l.map fun a => D.int (f a)).any fun y => eqF y (.int i)))) := rfl
  rw [e2, M.guard_of hf, e]
theorem flatZ (zs : List Int) : (zs.map D.int).all D.flat = true := q_flatI (fun z => z) zs
def F_is_number : Env2 → M Out :=
  (retM [0] (eAnd (eCall R_is_integer (aC (rdEnv 0) aN)) (e2 geD (rdEnv 0) (cst (.int 1)))))
def R_is_number : List D → M D := runD 1 F_is_number
def F_are_integers : Env2 → M Out :=
  (seqM (ifM [0, 1, 2, 3] (tOrM (tNotM (tVal (e1 (isiD2 "list" "tuple") (rdEnv 0)))) (tNotM (tVal (eCall allF (aC (eN (nLc [3] (iAny (rdEnv 0)) (bName 3) cT (eAnd (eCall R_is_integer (aC (rdEnv 3) aN)) (eChain leD ltD (rdEnv 1) (rdEnv 3) (rdEnv 2))))) aN)))))
  (retM [] (cst (.bl false)))
  sNil)
  (retM [0] (e2 (eqD false) (e1 lenSetF (rdEnv 0)) (eCall lenG (aC (rdEnv 0) aN)))))
def R_are_integers : List D → M D := runD 4 F_are_integers
def F_plain_telling : Env2 → M Out :=
  (seqM (unpM (bTup 4 (bCons (bName 6) (bCons (bName 7) (bCons (bName 8) (bCons (bName 9) bNil))))) [0] (rdEnv 0))
  (seqM (setNM 1 [8, 10] (nLc [10] (iRg2 (aC (cst (.int 1)) (aC (e2 addD (rdEnv 8) (cst (.int 1))) aN))) (bName 10) (t2 (eqD false) (e2 modD (rdEnv 8) (rdEnv 10)) (cst (.int 0))) (rdEnv 10)))
  (seqM (setM 2 [1, 8, 9, 10, 12] (e2 ixF (eN (nLc [10] (iAny (rdEnv 1)) (bName 10) (tVal (eCall allF (aC (eN (nLc [12] (iAny (rdEnv 9)) (bName 12) cT (e2 (inF false) (e2 modD (e2 addD (rdEnv 12) (rdEnv 10)) (rdEnv 8)) (rdEnv 9)))) aN))) (rdEnv 10))) (cst (.int 0))))
  (seqM (setNM 3 [2, 9, 12] (nSortSc [12] (iAny (rdEnv 9)) (bName 12) cT (e2 modD (rdEnv 12) (rdEnv 2))))
  (seqM (setNM 4 [2, 3, 6, 7, 11] (nLc [11] (iRg2 (aC (cst (.int 1)) (aC (rdEnv 7) aN))) (bName 11) (t2 (eqD true) (e2 (inF false) (rdEnv 11) (rdEnv 6)) (e2 (inF false) (e2 modD (rdEnv 11) (rdEnv 2)) (rdEnv 3))) (rdEnv 11)))
  (seqM (setM 5 [4] (eIf (t2 (eqD true) (rdEnv 4) (eN (nLst aN))) (e2 addD (e2 ixF (rdEnv 4) (e1 negD (cst (.int 1)))) (cst (.int 1))) (cst (.int 1))))
  (retM [2, 3, 5, 6, 13] (eTup (aC (eN (nCall sortedF (aC (eN (nLc [13] (iAny (rdEnv 6)) (bName 13) (t2 ltD (rdEnv 13) (rdEnv 5)) (rdEnv 13))) aN))) (aC (rdEnv 5) (aC (rdEnv 2) (aC (rdEnv 3) aN))))))))))))
def R_plain_telling : List D → M D := runD 14 F_plain_telling
def F_Calendar___init__ : Env2 → M (List D) :=
  (iSeq (ifM [1] (tNotM (tVal (eCall R_is_number (aC (rdEnv 1) aN))))
  (fun _ => M.fail)
  sNil)
  (iSeq (ifM [1, 2] (tNotM (tVal (eCall R_are_integers (aC (rdEnv 2) (aC (cst (.int 1)) (aC (rdEnv 1) aN))))))
  (fun _ => M.fail)
  sNil)
  (iSeq (ifM [3] (tNotM (tVal (eCall R_is_number (aC (rdEnv 3) aN))))
  (fun _ => M.fail)
  sNil)
  (iSeq (ifM [3, 4] (tNotM (tVal (eCall R_are_integers (aC (rdEnv 4) (aC (cst (.int 0)) (aC (rdEnv 3) aN))))))
  (fun _ => M.fail)
  sNil)
  (iOne [1, 2, 3, 4] (eCall R_plain_telling (aC (eTup (aC (eN (nCall sortedF (aC (rdEnv 2) aN))) (aC (rdEnv 1) (aC (rdEnv 3) (aC (eN (nCall sortedF (aC (rdEnv 4) aN))) aN))))) aN)))))))
local macro_rules | `(tactic| walk_at "ev8") => `(tactic| try simp -implicitDefEqProofs -dsimp (disch := walk_at "dis") only [flatZ, ↓q_seq, ↓q_seqK_nx, ↓q_seqK_rt, ↓q_seqK_rn, ↓q_seqK_bk, ↓q_seqK_ct, ↓q_runD, ↓q_runN, q_runK_rt, q_runK_rn, q_runK_nx, q_runKN_rn, ↓q_set, ↓q_setN, ↓q_ret, ↓q_retN, ↓q_if, ↓q_unp, q_unpK, ↓q_par, q_parK, ↓q_aug, q_augK, q_addF_int, q_addF_str, q_guard, ↓q_for, ↓q_forR, ↓q_sNil, ↓q_e2, ↓q_t2, ↓q_e1, ↓q_cst, ↓q_aN, ↓q_aC, ↓q_call, ↓q_callN, ↓q_eN, ↓q_nLst, q_lstK, ↓q_eTup, q_tupK, ↓q_tVal, ↓q_tNot, ↓q_tAnd, ↓q_tOr, ↓q_eAnd, ↓q_eNot, ↓q_eIf, ↓q_iAny, ↓q_iRg1, ↓q_iRg2, ↓q_nLc, ↓q_cT, ↓q_oN, ↓q_oS, ↓q_eSl, ↓q_eChain, ↓q_eMake, ↓q_eMeth, ↓q_n1M, ↓q_iSeq, q_selK, q_self, ↓q_ext, q_extK, q_inE, q_notInE, q_is_non, q_is_str, q_is_int, q_is_tup, q_is_lst, q_isnt_non, q_isnt_str, q_isnt_int, q_isnt_tup, q_isnt_lst, q_list_l, q_list_t, q_max2, q_sum, q_ixF_s, q_ixF_l, q_ixF_t, q_ixF_b, q_inF_s, q_inF_l, q_inF_t, q_lenG_s, q_lenG_l, q_lenG_t, q_lenG_d, q_lenG_dt, q_seeT, q_toDv, q_toDl, q_toDk, q_toDt, q_toDs0, q_toDs1, q_toDsm, q_fls0, q_fls1, q_flv, q_fll, q_flk, q_flt, q_flsm, q_flatS, q_flatI, q_flatS2, q_mapv0, bnd_ret, bnd_assoc, bnd_assoc', bnd_r, cnd_t, cnd_f, fail_bnd, bind_bnd, str01, List.cons.injEq, and_true, decide_true, decide_false, cut_toN, cut_fromN, cut_from1N, cut_to1N, cut_to1, cut_to2, cut_to3, cut_from1, cut_toM1, cut_fromM1, DL.startD, List.map_cons, List.map_nil, List.length_cons, List.length_nil, Nat.reduceAdd, Nat.reduceSub, List.replicate, List.cons_append, List.nil_append, view_eq, viewAt_cons, viewAt_nil, List.contains_cons, List.contains_nil, Nat.reduceBEq, Bool.or_true, Bool.or_false, Bool.true_or, Bool.false_or, if_true, Bool.false_eq_true, if_false, Option.map_some, Option.map_none, see_val, see_own, rd_0, rd_1, rd_2, rd_3, rd_4, rd_5, rd_6, rd_7, rd_8, rd_9, rd_10, rd_11, rd_12, rd_13, rd_14, Int.reduceToNat, flat_int, flat_str, flat_bl, flat_non, flat_bag, flat_lst, flat_tup, flat_obj, List.all_cons, List.all_nil, Bool.and_true, Bool.true_and, Bool.and_false, Bool.false_and, keepIf_t, keepIf_f, frz_eq, frzAt_cons, frzAt_nil, List.set_cons_succ, List.set_cons_zero, subD_int, addD_int, negD_int, asI_int, asB_bl, truD_bl, lenF_lst, lenF_tup, intF_int, intF_bl, absF_int, ltD_int, leD_int, gtD_int, geD_int, eqD_int, eqD_str, neD_int, neD_str, inD_str, notInD_str, slD_lst, slD_scr, revD_lst, itemsD_lst, itemsD_tup, itemsD_str, Bool.not_true, Bool.not_false, ixD_l, ixD_t, ofSome, atI_0, atI_1, atI_2, atI_3, atI_4, atI_app, slotD_obj, propD_obj, propN_obj, isC_obj, get0, get1, get2, get3, getS, bName_eq, bTup_eq, bCons_eq, bNil_eq, setAll2_cons, setAll2_nil, setAllD_cons, setAllD_nil, wipeD_cons, wipeD_nil, isi_str_str, isi_int_int, isi_bool_int, List.getElem?_cons_zero, List.getElem?_cons_succ, q_minG2, q_minGs, q_iOne, q_inO, q_setAt, q_flat_dct, q_flat_dcT, q_eqC, q_isiO, q_isiO_i, q_isiO_s, q_isiO_n, q_isiO_l, q_isiO_t, q_nSortSc, q_isB, q_isntB, q_n2, q_catL, q_cndN, q_szL, q_c0, q_c1, q_c2, q_c3, q_c4, q_c5, q_c6, q_c7, q_c8, q_c9, q_c10, q_c11, q_c12, q_c13, q_c14, q_c15, q_c16, q_guardT, q_eqBl, q_neBl, q_toDu, q_flu, q_bLst, q_neC, q_cut2, q_cut3, eq_self, cnd_dt, cnd_df, Int.toNat_natCast, lenF_str, modD_int, divD_int, addD_str, addD_lst, slD_str, revD_str, ixD_str, ixD_str1, ixD_strmod, rng1_int, rng2_int, mulD_intl, mulD_intr, intF_dig])
theorem is_number_is (i : Int) : R_is_number [.int i] = M.ret (.bl (decide (1 ≤ i))) := by
  simp only [R_is_number, F_is_number]
  walk_at "ev8"
  rw [is_integer_is]
  walk_at "ev8"
def calI : List D → M (List D)
  | [.int s, e, .int p, r] => M.guard (decide (1 ≤ s) && decide (1 ≤ p)) (M.bind (R_are_integers [e, .int 1, .int s]) fun x => M.bind (truD x) fun k => M.guard k (M.bind (R_are_integers [r, .int 0, .int p]) fun y => M.bind (truD y) fun l => M.guard l
      (M.bind (sortedF [e]) fun es => M.bind (sortedF [r]) fun rs => M.bind (R_plain_telling [.tup [.lst es, .int s, .int p, .lst rs]]) fun t => M.ret [t])))
  | _ => M.fail
theorem init_Calendar (x : Addr) (ds : List D) (b : Bs) (r : List D × Bs) (hl : ds.length = 4) (h : calI ds b = some r) : F_Calendar___init__ (startD 5 (.bag x :: ds)) b = some r := by
  unfold calI at h
  split at h
  · rename_i s e p rr
    obtain ⟨c, h⟩ := M.guard_some h
    rw [Bool.and_eq_true, decide_eq_true_iff, decide_eq_true_iff] at c
    obtain ⟨s1, p1⟩ := c
    obtain ⟨x1, b1, h1, h⟩ := M.bind_some h
    obtain ⟨k, b2, h2, h⟩ := M.bind_some h
    obtain ⟨rfl, h⟩ := M.guard_some h
    obtain ⟨y1, b3, h3, h⟩ := M.bind_some h
    obtain ⟨k, b4, h4, h⟩ := M.bind_some h
    obtain ⟨rfl, h⟩ := M.guard_some h
    obtain ⟨es, b5, h5, h⟩ := M.bind_some h
    obtain ⟨rs, b6, h6, h⟩ := M.bind_some h
    simp only [F_Calendar___init__]
    walk_at "ev8"
    rw [is_number_is, decide_eq_true s1]
    walk_at "ev8"
    show M.bind _ _ b = _
    rw [M.bind_eq h1]
    walk_at "ev8"
    show M.bind _ _ b1 = _
    rw [M.bind_eq h2]
    walk_at "ev8"
    rw [is_number_is, decide_eq_true p1]
    walk_at "ev8"
    show M.bind _ _ b2 = _
    rw [M.bind_eq h3]
    walk_at "ev8"
    show M.bind _ _ b3 = _
    rw [M.bind_eq h4]
    walk_at "ev8"
    show M.bind _ _ b4 = _
    rw [M.bind_eq h5]
    walk_at "ev8"
    show M.bind _ _ b5 = _
    rw [M.bind_eq h6]
    walk_at "ev8"
    exact h
  · cases h
def natL (xs : List Nat) : List D := xs.map fun (n : Nat) => D.int (n : Int)
theorem natL_len (xs : List Nat) : (natL xs).length = xs.length := List.length_map _
theorem natL_flat (xs : List Nat) : (natL xs).all D.flat = true := by
  rw [List.all_eq_true]
  intro d hd
  obtain ⟨s, _, rfl⟩ := List.mem_map.mp hd
  rfl
theorem in_nat (neg : Bool) (j : Nat) (S : List Nat) : inF neg (.int (j : Int)) (.lst (natL S)) = M.ret (.bl (if neg then decide (j ∉ S) else decide (j ∈ S))) := by
  have h : inF neg (.int (j : Int)) (.lst (natL S)) = _ := inF_ints neg (j : Int) (fun (s : Nat) => (s : Int)) S
  have e : ((j : Int) ∈ S.map fun (s : Nat) => (s : Int)) ↔ j ∈ S := by
    constructor
    · intro h
      obtain ⟨s, hs, e⟩ := List.mem_map.mp h
      have : s = j := by omega
      rw [← this]; exact hs
    · exact fun h => List.mem_map.mpr ⟨j, h, rfl⟩
  rw [decide_eq_decide.mpr e] at h
  rw [h]
  cases neg with
  | true => rw [if_pos rfl, if_pos rfl, ← decide_not]
  | false => rfl
theorem in_natE (neg : Bool) (j : Nat) (S : List Nat) : inE neg (.int (j : Int)) (.lst (natL S)) = M.ret (.bl (if neg then decide (j ∉ S) else decide (j ∈ S))) := in_nat neg j S
theorem pwN_nodup {xs : List Nat} (h : xs.Pairwise (· < ·)) : xs.Nodup := h.imp fun h => Nat.ne_of_lt h
theorem natI_nodup {xs : List Nat} (h : xs.Nodup) : (xs.map fun (n : Nat) => (n : Int)).Nodup := by
  rw [List.nodup_iff_pairwise_ne, List.pairwise_map]
  exact (List.nodup_iff_pairwise_ne.mp h).imp fun h e => h (by omega)
theorem natL_ints (xs : List Nat) : natL xs = (xs.map fun (n : Nat) => (n : Int)).map D.int := by unfold natL; rw [List.map_map]; rfl
theorem natI_pw {xs : List Nat} (h : xs.Pairwise (· < ·)) : (xs.map fun (n : Nat) => (n : Int)).Pairwise (· ≤ ·) := by
  rw [List.pairwise_map]
  exact h.imp fun h => by omega
theorem sorted_nat {xs ys : List Nat} (hp : ys.Pairwise (· < ·)) (h : ys.Perm xs) : sortedF [.lst (natL xs)] = M.ret (natL ys) := by
  by_cases e : xs = []
  · subst e
    rw [List.perm_nil.mp h]
    have := sortedF_strs []
    simpa [sortS, natL] using this
  · rw [natL_ints, sortedF_ints (by simpa using e), natL_ints ys]
    rw [sortI_uniq (ns := xs.map fun (n : Nat) => (n : Int)) (ms := ys.map fun (n : Nat) => (n : Int)) (h.map _) (natI_pw hp)]
theorem sortSc_nat {xs ys : List Nat} (hp : ys.Pairwise (· < ·)) (h : ∀ n, n ∈ ys ↔ n ∈ xs) (hz : xs.length + 1 < 4096) : sortScK (natL xs) = M.ret (natL ys) := by
  by_cases e : xs = []
  · subst e
    have : ys = [] := List.eq_nil_iff_forall_not_mem.mpr fun n hn => by have := (h n).mp hn; cases this
    subst this
    have := sortScK_strs (xs := []) (by simp)
    simpa [natL, sortS, dedB] using this
  · have e1 : asTs (natL xs) = none := by
      cases xs with
      | nil => exact absurd rfl e
      | cons a l => rfl
    have e2 : intsD (natL xs) = some (xs.map fun (n : Nat) => (n : Int)) := by rw [natL_ints]; exact intsD_map _
    unfold sortScK
    rw [e1, e2]
    show M.guard _ (M.ret ((sortI (dedB (xs.map fun (n : Nat) => (n : Int)))).map D.int)) = _
    rw [M.guard_of (decide_eq_true (by rw [natL_len]; exact hz)), natL_ints ys]
    rw [sortI_uniq (ns := dedB (xs.map fun (n : Nat) => (n : Int))) (ms := ys.map fun (n : Nat) => (n : Int)) ?_ (natI_pw hp)]
    refine (List.perm_ext_iff_of_nodup (natI_nodup (pwN_nodup hp)) (nodup_dedB _)).mpr fun z => ?_
    rw [mem_dedB, List.mem_map, List.mem_map]
    exact ⟨fun ⟨n, hn, e⟩ => ⟨n, (h n).mp hn, e⟩, fun ⟨n, hn, e⟩ => ⟨n, (h n).mpr hn, e⟩⟩
local macro_rules | `(tactic| walk_at "ev9") => `(tactic| try simp -implicitDefEqProofs -dsimp (disch := walk_at "dis") only [flatZ, in_nat, in_natE, ↓q_seq, ↓q_seqK_nx, ↓q_seqK_rt, ↓q_seqK_rn, ↓q_seqK_bk, ↓q_seqK_ct, ↓q_runD, ↓q_runN, q_runK_rt, q_runK_rn, q_runK_nx, q_runKN_rn, ↓q_set, ↓q_setN, ↓q_ret, ↓q_retN, ↓q_if, ↓q_unp, q_unpK, ↓q_par, q_parK, ↓q_aug, q_augK, q_addF_int, q_addF_str, q_guard, ↓q_for, ↓q_forR, ↓q_sNil, ↓q_e2, ↓q_t2, ↓q_e1, ↓q_cst, ↓q_aN, ↓q_aC, ↓q_call, ↓q_callN, ↓q_eN, ↓q_nLst, q_lstK, ↓q_eTup, q_tupK, ↓q_tVal, ↓q_tNot, ↓q_tAnd, ↓q_tOr, ↓q_eAnd, ↓q_eNot, ↓q_eIf, ↓q_iAny, ↓q_iRg1, ↓q_iRg2, ↓q_nLc, ↓q_cT, ↓q_oN, ↓q_oS, ↓q_eSl, ↓q_eChain, ↓q_eMake, ↓q_eMeth, ↓q_n1M, ↓q_iSeq, q_selK, q_self, ↓q_ext, q_extK, q_inE, q_notInE, q_is_non, q_is_str, q_is_int, q_is_tup, q_is_lst, q_isnt_non, q_isnt_str, q_isnt_int, q_isnt_tup, q_isnt_lst, q_list_l, q_list_t, q_max2, q_sum, q_ixF_s, q_ixF_l, q_ixF_t, q_ixF_b, q_inF_s, q_inF_l, q_inF_t, q_lenG_s, q_lenG_l, q_lenG_t, q_lenG_d, q_lenG_dt, q_seeT, q_toDv, q_toDl, q_toDk, q_toDt, q_toDs0, q_toDs1, q_toDsm, q_fls0, q_fls1, q_flv, q_fll, q_flk, q_flt, q_flsm, q_flatS, q_flatI, q_flatS2, q_mapv0, bnd_ret, bnd_assoc, bnd_assoc', bnd_r, cnd_t, cnd_f, fail_bnd, bind_bnd, str01, List.cons.injEq, and_true, decide_true, decide_false, cut_toN, cut_fromN, cut_from1N, cut_to1N, cut_to1, cut_to2, cut_to3, cut_from1, cut_toM1, cut_fromM1, DL.startD, List.map_cons, List.map_nil, List.length_cons, List.length_nil, Nat.reduceAdd, Nat.reduceSub, List.replicate, List.cons_append, List.nil_append, view_eq, viewAt_cons, viewAt_nil, List.contains_cons, List.contains_nil, Nat.reduceBEq, Bool.or_true, Bool.or_false, Bool.true_or, Bool.false_or, if_true, Bool.false_eq_true, if_false, Option.map_some, Option.map_none, see_val, see_own, rd_0, rd_1, rd_2, rd_3, rd_4, rd_5, rd_6, rd_7, rd_8, rd_9, rd_10, rd_11, rd_12, rd_13, rd_14, Int.reduceToNat, flat_int, flat_str, flat_bl, flat_non, flat_bag, flat_lst, flat_tup, flat_obj, List.all_cons, List.all_nil, Bool.and_true, Bool.true_and, Bool.and_false, Bool.false_and, keepIf_t, keepIf_f, frz_eq, frzAt_cons, frzAt_nil, List.set_cons_succ, List.set_cons_zero, subD_int, addD_int, negD_int, asI_int, asB_bl, truD_bl, lenF_lst, lenF_tup, intF_int, intF_bl, absF_int, ltD_int, leD_int, gtD_int, geD_int, eqD_int, eqD_str, neD_int, neD_str, inD_str, notInD_str, slD_lst, slD_scr, revD_lst, itemsD_lst, itemsD_tup, itemsD_str, Bool.not_true, Bool.not_false, ixD_l, ixD_t, ofSome, atI_0, atI_1, atI_2, atI_3, atI_4, atI_app, slotD_obj, propD_obj, propN_obj, isC_obj, get0, get1, get2, get3, getS, bName_eq, bTup_eq, bCons_eq, bNil_eq, setAll2_cons, setAll2_nil, setAllD_cons, setAllD_nil, wipeD_cons, wipeD_nil, isi_str_str, isi_int_int, isi_bool_int, List.getElem?_cons_zero, List.getElem?_cons_succ, q_minG2, q_minGs, q_iOne, q_inO, q_setAt, q_flat_dct, q_flat_dcT, q_eqC, q_isiO, q_isiO_i, q_isiO_s, q_isiO_n, q_isiO_l, q_isiO_t, q_nSortSc, q_isB, q_isntB, q_n2, q_catL, q_cndN, q_szL, q_c0, q_c1, q_c2, q_c3, q_c4, q_c5, q_c6, q_c7, q_c8, q_c9, q_c10, q_c11, q_c12, q_c13, q_c14, q_c15, q_c16, q_guardT, q_eqBl, q_neBl, q_toDu, q_flu, q_bLst, q_neC, q_cut2, q_cut3, eq_self, cnd_dt, cnd_df, Int.toNat_natCast, lenF_str, modD_int, divD_int, addD_str, addD_lst, slD_str, revD_str, ixD_str, ixD_str1, ixD_strmod, rng1_int, rng2_int, mulD_intl, mulD_intr, intF_dig])
def telD (c : Tel) : D := .tup [.lst (natL c.es), .int (c.s : Int), .int (c.p : Int), .lst (natL c.rs)]
def calD (c : Tel) : D := .obj 2 [telD c]
theorem rng1_nat {m : Int} (p : Nat) (h : m.toNat = p) : ((List.range m.toNat).map fun (k : Nat) => D.int (1 + (k : Int))) = natL (List.range' 1 p) := by
  rw [h, natL, List.range'_eq_map_range, List.map_map]
  refine List.map_congr_left fun k _ => ?_
  show D.int (1 + (k : Int)) = D.int ((1 + k : Nat) : Int)
  rw [Int.natCast_add]; rfl
theorem natmod (a b : Nat) : ((a : Int) % (b : Int)) = ((a % b : Nat) : Int) := (Int.natCast_emod a b).symm
theorem natL_ok {xs : List Nat} (h : ∀ n ∈ xs, n < 10 ^ 12) (hl : xs.length ≤ 100000) : okA (.lst (natL xs)) = true := okA_lst (k := 0) (w := 13) (fun d hd => by
  obtain ⟨n, hn, rfl⟩ := List.mem_map.mp hd
  have := h n hn
  exact int_okd (by omega) (by omega)) (by omega) (by rw [natL_len]; omega)
theorem head_of {l : List Nat} {P : Nat → Bool} {d0 : Nat} (h : ∃ d ∈ l, P d = true) : ∃ tl, l.filter P = (l.filter P).headD d0 :: tl := by
  obtain ⟨d, hd, hp⟩ := h
  have hm : d ∈ l.filter P := List.mem_filter.mpr ⟨hd, hp⟩
  cases e : l.filter P with
  | nil => rw [e] at hm; cases hm
  | cons a tl => exact ⟨tl, rfl⟩
theorem natL_last {xs : List Nat} (h : xs ≠ []) : atI (natL xs) (-1) = some (.int ((xs.getLast h : Nat) : Int)) := by
  have e : xs = xs.dropLast ++ [xs.getLast h] := (List.dropLast_concat_getLast h).symm
  generalize xs.getLast h = z at e ⊢
  rw [e]
  unfold natL
  rw [List.map_append]
  exact atI_app _ _
theorem plain_telling_is {c : Tel} (h : c.Ok) (ez : c.es.length ≤ 4000) (sz : c.s ≤ 5000) (pz : c.p ≤ 4000) (rz : c.rs.length ≤ 4000) : R_plain_telling [telD c] = M.ret (telD c.plain) := by
  have el := natL_len c.es
  have rl := natL_len c.rs
  have s1 := h.s1
  have p1 := h.p1
  obtain ⟨⟨d1, d2, d3⟩, hc, hmin⟩ := leastP_is h.p1 h.rb
  simp only [R_plain_telling, F_plain_telling, telD]
  walk_at "ev9"
  rw [rng1_nat c.p (by omega)]
  rw [show natL (List.range' 1 c.p) = (List.range' 1 c.p).map fun (n : Nat) => D.int (n : Int) from rfl, compM_filterI (l := fun (n : Nat) => [(10, D.int (n : Int))]) (k := fun d => decide (c.p % d = 0)) (y := fun (n : Nat) => D.int (n : Int)) (xs := List.range' 1 c.p) fun n hn => ⟨rfl, by
    have := List.mem_range'_1.mp hn
    walk_at "ev9"
    rw [natmod, decide_eq_decide.mpr (show ((c.p % n : Nat) : Int) = 0 ↔ c.p % n = 0 by omega)], by walk_at "ev9"⟩]
  rw [show (((List.range' 1 c.p).filter fun d => decide (c.p % d = 0)).map fun (n : Nat) => D.int (n : Int)) = natL (divsL c.p) from rfl]
  have dl : (natL (divsL c.p)).length ≤ 4000 := by
    rw [natL_len]
    refine Nat.le_trans (List.length_filter_le _ _) ?_
    rw [List.length_range']; exact pz
  have df := natL_flat (divsL c.p)
  walk_at "ev9"
  rw [df]
  walk_at "ev9"
  rw [show natL (divsL c.p) = (divsL c.p).map fun (n : Nat) => D.int (n : Int) from rfl, compM_filterI (l := fun (n : Nat) => [(10, D.int (n : Int))]) (k := fun d => clo c.p c.rs d) (y := fun (n : Nat) => D.int (n : Int)) (xs := divsL c.p) fun n hn => ⟨rfl, by
    walk_at "ev9"
    rw [show natL c.rs = c.rs.map fun (n : Nat) => D.int (n : Int) from rfl, compM_mapI (l := fun (q : Nat) => [(12, D.int (q : Int))]) (y := fun (q : Nat) => D.bl (decide ((q + n) % c.p ∈ c.rs))) (xs := c.rs) fun q hq => ⟨rfl, rfl, by
      walk_at "ev9"
      rw [show ((q : Int) + (n : Int)) % (c.p : Int) = (((q + n) % c.p : Nat) : Int) by rw [← natmod, Int.natCast_add]]
      rw [show (c.rs.map fun (n : Nat) => D.int (n : Int)) = natL c.rs from rfl]
      walk_at "ev9"
      try rfl⟩]
    walk_at "ev9"
    rw [allF_map c.rs fun q => decide ((q + n) % c.p ∈ c.rs)]
    walk_at "ev9"
    try rfl, by walk_at "ev9"⟩]
  obtain ⟨tl, ht⟩ := head_of (l := divsL c.p) (P := fun d => clo c.p c.rs d) (d0 := c.p) ⟨c.p, divs_mem.mpr ⟨p1, Nat.le_refl _, Nat.mod_self _⟩, clo_self h.rb⟩
  rw [ht]
  have tlz : tl.length + 1 ≤ 4000 := by
    have := congrArg List.length ht
    rw [List.length_cons] at this
    have := List.length_filter_le (fun d => clo c.p c.rs d) (divsL c.p)
    rw [natL_len] at dl
    omega
  rw [show ((divsL c.p).filter fun d => clo c.p c.rs d).headD c.p = c.per from rfl]
  have d1' : 1 ≤ c.per := d1
  walk_at "ev9"
  rw [show natL c.rs = c.rs.map fun (n : Nat) => D.int (n : Int) from rfl, compM_mapI (l := fun (q : Nat) => [(12, D.int (q : Int))]) (y := fun (q : Nat) => D.int ((q % c.per : Nat) : Int)) (xs := c.rs) fun q hq => ⟨rfl, rfl, by
    walk_at "ev9"
    rw [natmod]⟩]
  rw [show (c.rs.map fun (q : Nat) => D.int ((q % c.per : Nat) : Int)) = natL (c.rs.map fun q => q % c.per) by unfold natL; rw [List.map_map]; rfl]
  walk_at "ev9"
  rw [sortSc_nat (ys := c.few) (few_pw _ _) (fun n => by
    unfold Tel.few
    rw [few_mem, List.mem_map]
    exact ⟨fun ⟨_, h2⟩ => h2, fun ⟨q, h1, h2⟩ => ⟨by rw [← h2]; exact Nat.mod_lt _ d1, q, h1, h2⟩⟩) (by rw [List.length_map]; omega)]
  have fl := natL_flat c.few
  have flz : (natL c.few).length ≤ 4000 := by
    rw [natL_len]
    refine Nat.le_trans (List.length_filter_le _ _) ?_
    rw [List.length_range]
    exact Nat.le_trans d2 pz
  walk_at "ev9"
  rw [fl]
  walk_at "ev9"
  rw [rng1_nat (c.s - 1) (by omega)]
  rw [show natL (List.range' 1 (c.s - 1)) = (List.range' 1 (c.s - 1)).map fun (n : Nat) => D.int (n : Int) from rfl, compM_filterI (l := fun (n : Nat) => [(11, D.int (n : Int))]) (k := fun n => decide (n ∈ c.es) != decide (n % c.per ∈ c.few)) (y := fun (n : Nat) => D.int (n : Int)) (xs := List.range' 1 (c.s - 1)) fun n hn => ⟨rfl, by
    walk_at "ev9"
    rw [natmod]
    walk_at "ev9"
    cases decide (n ∈ c.es) <;> cases decide (n % c.per ∈ c.few) <;> rfl, by walk_at "ev9"⟩]
  rw [show ((List.range' 1 (c.s - 1)).filter fun n => decide (n ∈ c.es) != decide (n % c.per ∈ c.few)).map (fun (n : Nat) => D.int (n : Int)) = natL (unL c.s c.es c.few c.per) from rfl]
  have uf := natL_flat (unL c.s c.es c.few c.per)
  have ul : (natL (unL c.s c.es c.few c.per)).length ≤ 5000 := by
    rw [natL_len]
    refine Nat.le_trans (List.length_filter_le _ _) ?_
    rw [List.length_range']; omega
  walk_at "ev9"
  rw [uf]
  walk_at "ev9"
  rw [eqD_nil true (natL_ok (fun n hn => by have := (un_mem.mp hn).2.1; omega) (by rw [natL_len] at ul; omega))]
  have gf : sortedF [.lst (natL (c.es.filter fun n => decide (n < c.first)))] = M.ret (natL (c.es.filter fun n => decide (n < c.first))) := sorted_nat (h.ea.filter _) (List.Perm.refl _)
  rw [show c.plain.es = c.es.filter fun n => decide (n < c.first) from rfl, show c.plain.s = c.first from rfl, show c.plain.p = c.per from rfl, show c.plain.rs = c.few from rfl]
  have gl : (natL (c.es.filter fun n => decide (n < c.first))).length ≤ 4000 := by
    rw [natL_len]
    exact Nat.le_trans (List.length_filter_le _ _) ez
  have ef : c.first = firstL (unL c.s c.es c.few c.per) := rfl
  generalize unL c.s c.es c.few c.per = U at *
  generalize c.first = f0 at *
  cases U with
  | nil =>
    have ef : f0 = 1 := ef
    subst ef
    rw [show (natL []).isEmpty = true from rfl]
    walk_at "ev9"
    rw [show natL c.es = c.es.map fun (n : Nat) => D.int (n : Int) from rfl, compM_filterI (l := fun (n : Nat) => [(13, D.int (n : Int))]) (k := fun n => decide (n < 1)) (y := fun (n : Nat) => D.int (n : Int)) (xs := c.es) fun n hn => ⟨rfl, by
      walk_at "ev9"
      rw [decide_eq_decide.mpr (show (n : Int) < 1 ↔ n < 1 by omega)], by walk_at "ev9"⟩]
    walk_at "ev9"
    rw [show ((c.es.filter fun n => decide (n < 1)).map fun (n : Nat) => D.int (n : Int)) = natL (c.es.filter fun n => decide (n < 1)) from rfl]
    walk_at "ev9"
    rw [gf]
    walk_at "ev9"
  | cons u us =>
    have nl := natL_last (List.cons_ne_nil u us)
    rw [show (natL (u :: us)).isEmpty = false from rfl]
    walk_at "ev9"
    rw [nl]
    walk_at "ev9"
    rw [show natL c.es = c.es.map fun (n : Nat) => D.int (n : Int) from rfl, compM_filterI (l := fun (n : Nat) => [(13, D.int (n : Int))]) (k := fun n => decide (n < f0)) (y := fun (n : Nat) => D.int (n : Int)) (xs := c.es) fun n hn => ⟨rfl, by
      walk_at "ev9"
      rw [decide_eq_decide.mpr (show (n : Int) < _ + 1 ↔ n < f0 by rw [ef]; show _ ↔ n < (u :: us).getLast _ + 1; omega)], by walk_at "ev9"⟩]
    walk_at "ev9"
    rw [show ((c.es.filter fun n => decide (n < f0)).map fun (n : Nat) => D.int (n : Int)) = natL (c.es.filter fun n => decide (n < f0)) from rfl]
    walk_at "ev9"
    rw [gf]
    walk_at "ev9"
    rw [show ((f0 : Nat) : Int) = (((u :: us).getLast (List.cons_ne_nil u us) : Nat) : Int) + 1 by rw [ef]; rfl]
def F_is_size : Env2 → M Out :=
  (seqM (unpM (bTup 4 (bCons (bName 2) (bCons (bName 3) (bCons (bName 4) (bCons (bName 5) bNil))))) [0] (rdEnv 0))
  (retM [1, 2, 3, 4, 5] (eIf (t2 ltD (rdEnv 1) (rdEnv 3)) (e2 (inF false) (rdEnv 1) (rdEnv 2)) (e2 (inF false) (e2 modD (rdEnv 1) (rdEnv 4)) (rdEnv 5)))))
def R_is_size : List D → M D := runD 6 F_is_size
def F_Calendar___contains__ : Env2 → M Out :=
  (retM [0, 1] (eAnd (eCall R_is_number (aC (rdEnv 1) aN)) (eCall R_is_size (aC (e1 (slotD 2 0) (rdEnv 0)) (aC (rdEnv 1) aN)))))
def R_Calendar___contains__ : List D → M D := runD 2 F_Calendar___contains__
def F_Calendar___eq__ : Env2 → M Out :=
  (retM [0, 1] (eAnd (e1 (isiO 2) (rdEnv 1)) (e2 (eqD false) (e1 (slotD 2 0) (rdEnv 0)) (e1 (slotD 2 0) (rdEnv 1)))))
def R_Calendar___eq__ : List D → M D := runD 2 F_Calendar___eq__
def F_Calendar_start : Env2 → M Out :=
  (retM [0] (e2 ixF (e1 (slotD 2 0) (rdEnv 0)) (cst (.int 1))))
def R_Calendar_start : List D → M D := runD 1 F_Calendar_start
def F_Calendar_period : Env2 → M Out :=
  (retM [0] (e2 ixF (e1 (slotD 2 0) (rdEnv 0)) (cst (.int 2))))
def R_Calendar_period : List D → M D := runD 1 F_Calendar_period
def F_Calendar_early : Env2 → M Out :=
  (retNM [0] (nCall listF (aC (e2 ixF (e1 (slotD 2 0) (rdEnv 0)) (cst (.int 0))) aN)))
def R_Calendar_early : List D → M (List D) := runN 1 F_Calendar_early
def F_Calendar_rests : Env2 → M Out :=
  (retNM [0] (nCall listF (aC (e2 ixF (e1 (slotD 2 0) (rdEnv 0)) (cst (.int 3))) aN)))
def R_Calendar_rests : List D → M (List D) := runN 1 F_Calendar_rests
theorem isi_lst2 (xs : List D) : isiD2 "list" "tuple" (.lst xs) = M.ret (.bl true) := rfl
theorem isi_tup2 (xs : List D) : isiD2 "list" "tuple" (.tup xs) = M.ret (.bl true) := rfl
local macro_rules | `(tactic| walk_at "ev10") => `(tactic| try simp -implicitDefEqProofs -dsimp (disch := walk_at "dis") only [flatZ, in_nat, in_natE, isi_lst2, isi_tup2, ↓q_seq, ↓q_seqK_nx, ↓q_seqK_rt, ↓q_seqK_rn, ↓q_seqK_bk, ↓q_seqK_ct, ↓q_runD, ↓q_runN, q_runK_rt, q_runK_rn, q_runK_nx, q_runKN_rn, ↓q_set, ↓q_setN, ↓q_ret, ↓q_retN, ↓q_if, ↓q_unp, q_unpK, ↓q_par, q_parK, ↓q_aug, q_augK, q_addF_int, q_addF_str, q_guard, ↓q_for, ↓q_forR, ↓q_sNil, ↓q_e2, ↓q_t2, ↓q_e1, ↓q_cst, ↓q_aN, ↓q_aC, ↓q_call, ↓q_callN, ↓q_eN, ↓q_nLst, q_lstK, ↓q_eTup, q_tupK, ↓q_tVal, ↓q_tNot, ↓q_tAnd, ↓q_tOr, ↓q_eAnd, ↓q_eNot, ↓q_eIf, ↓q_iAny, ↓q_iRg1, ↓q_iRg2, ↓q_nLc, ↓q_cT, ↓q_oN, ↓q_oS, ↓q_eSl, ↓q_eChain, ↓q_eMake, ↓q_eMeth, ↓q_n1M, ↓q_iSeq, q_selK, q_self, ↓q_ext, q_extK, q_inE, q_notInE, q_is_non, q_is_str, q_is_int, q_is_tup, q_is_lst, q_isnt_non, q_isnt_str, q_isnt_int, q_isnt_tup, q_isnt_lst, q_list_l, q_list_t, q_max2, q_sum, q_ixF_s, q_ixF_l, q_ixF_t, q_ixF_b, q_inF_s, q_inF_l, q_inF_t, q_lenG_s, q_lenG_l, q_lenG_t, q_lenG_d, q_lenG_dt, q_seeT, q_toDv, q_toDl, q_toDk, q_toDt, q_toDs0, q_toDs1, q_toDsm, q_fls0, q_fls1, q_flv, q_fll, q_flk, q_flt, q_flsm, q_flatS, q_flatI, q_flatS2, q_mapv0, bnd_ret, bnd_assoc, bnd_assoc', bnd_r, cnd_t, cnd_f, fail_bnd, bind_bnd, str01, List.cons.injEq, and_true, decide_true, decide_false, cut_toN, cut_fromN, cut_from1N, cut_to1N, cut_to1, cut_to2, cut_to3, cut_from1, cut_toM1, cut_fromM1, DL.startD, List.map_cons, List.map_nil, List.length_cons, List.length_nil, Nat.reduceAdd, Nat.reduceSub, List.replicate, List.cons_append, List.nil_append, view_eq, viewAt_cons, viewAt_nil, List.contains_cons, List.contains_nil, Nat.reduceBEq, Bool.or_true, Bool.or_false, Bool.true_or, Bool.false_or, if_true, Bool.false_eq_true, if_false, Option.map_some, Option.map_none, see_val, see_own, rd_0, rd_1, rd_2, rd_3, rd_4, rd_5, rd_6, rd_7, rd_8, rd_9, rd_10, rd_11, rd_12, rd_13, rd_14, Int.reduceToNat, flat_int, flat_str, flat_bl, flat_non, flat_bag, flat_lst, flat_tup, flat_obj, List.all_cons, List.all_nil, Bool.and_true, Bool.true_and, Bool.and_false, Bool.false_and, keepIf_t, keepIf_f, frz_eq, frzAt_cons, frzAt_nil, List.set_cons_succ, List.set_cons_zero, subD_int, addD_int, negD_int, asI_int, asB_bl, truD_bl, lenF_lst, lenF_tup, intF_int, intF_bl, absF_int, ltD_int, leD_int, gtD_int, geD_int, eqD_int, eqD_str, neD_int, neD_str, inD_str, notInD_str, slD_lst, slD_scr, revD_lst, itemsD_lst, itemsD_tup, itemsD_str, Bool.not_true, Bool.not_false, ixD_l, ixD_t, ofSome, atI_0, atI_1, atI_2, atI_3, atI_4, atI_app, slotD_obj, propD_obj, propN_obj, isC_obj, get0, get1, get2, get3, getS, bName_eq, bTup_eq, bCons_eq, bNil_eq, setAll2_cons, setAll2_nil, setAllD_cons, setAllD_nil, wipeD_cons, wipeD_nil, isi_str_str, isi_int_int, isi_bool_int, List.getElem?_cons_zero, List.getElem?_cons_succ, q_minG2, q_minGs, q_iOne, q_inO, q_setAt, q_flat_dct, q_flat_dcT, q_eqC, q_isiO, q_isiO_i, q_isiO_s, q_isiO_n, q_isiO_l, q_isiO_t, q_nSortSc, q_isB, q_isntB, q_n2, q_catL, q_cndN, q_szL, q_c0, q_c1, q_c2, q_c3, q_c4, q_c5, q_c6, q_c7, q_c8, q_c9, q_c10, q_c11, q_c12, q_c13, q_c14, q_c15, q_c16, q_guardT, q_eqBl, q_neBl, q_toDu, q_flu, q_bLst, q_neC, q_cut2, q_cut3, eq_self, cnd_dt, cnd_df, Int.toNat_natCast, lenF_str, modD_int, divD_int, addD_str, addD_lst, slD_str, revD_str, ixD_str, ixD_str1, ixD_strmod, rng1_int, rng2_int, mulD_intl, mulD_intr, intF_dig])
theorem asTs_nat {xs : List Nat} (h : xs ≠ []) : asTs (natL xs) = none := by
  cases xs with
  | nil => exact absurd rfl h
  | cons a l => rfl
theorem lenSet_nat {xs : List Nat} (hn : xs.Nodup) (hz : xs.length + 1 < 4096) : lenSetF (.lst (natL xs)) = M.ret (.int (xs.length : Nat)) := by
  show lenSetK (asTs (natL xs)) (intsD (natL xs)) = _
  by_cases e : xs = []
  · subst e; rfl
  · rw [asTs_nat e, show intsD (natL xs) = some (xs.map fun (n : Nat) => (n : Int)) by rw [natL_ints]; exact intsD_map _]
    show M.guard _ _ = _
    rw [M.guard_of (decide_eq_true (by rw [List.length_map]; exact hz)), dedB_of (natI_nodup hn), List.length_map]
theorem are_ints_is {xs : List Nat} {lo hi : Int} (hn : xs.Nodup) (hb : ∀ n ∈ xs, lo ≤ (n : Int) ∧ (n : Int) < hi) (hz : xs.length + 1 < 4096) : R_are_integers [.lst (natL xs), .int lo, .int hi] = M.ret (.bl true) := by
  have nl := natL_len xs
  have fl := natL_flat xs
  simp only [R_are_integers, F_are_integers]
  walk_at "ev10"
  rw [show natL xs = xs.map fun (n : Nat) => D.int (n : Int) from rfl, compM_mapI (l := fun (q : Nat) => [(3, D.int (q : Int))]) (y := fun (q : Nat) => D.bl true) (xs := xs) fun q hq => ⟨rfl, rfl, by
    have := hb q hq
    walk_at "ev10"
    rw [is_integer_is]
    walk_at "ev10"
    rw [decide_eq_true (show (q : Int) < hi by omega)]⟩]
  walk_at "ev10"
  rw [allF_map xs fun _ => true, show (xs.all fun _ => true) = true by rw [List.all_eq_true]; intros; rfl]
  walk_at "ev10"
  rw [show xs.map (fun (n : Nat) => D.int (n : Int)) = natL xs from rfl, lenSet_nat hn hz]
  walk_at "ev10"
  rw [nl, decide_eq_true rfl]
theorem is_size_is (c : Tel) (n : Nat) (p1 : 1 ≤ c.p) : R_is_size [telD c, .int (n : Int)] = M.ret (.bl (c.has n)) := by
  simp only [R_is_size, F_is_size, telD]
  walk_at "ev10"
  unfold Tel.has
  by_cases e : n < c.s
  · rw [decide_eq_true (show (n : Int) < c.s by omega), if_pos e]
    walk_at "ev10"
  · rw [decide_eq_false (show ¬ (n : Int) < c.s by omega), if_neg e]
    walk_at "ev10"
    rw [natmod]
    walk_at "ev10"
theorem contains_is {c : Tel} (h : c.Ok) (n : Nat) : R_Calendar___contains__ [calD c, .int (n : Int)] = M.ret (.bl (decide (1 ≤ n) && c.has n)) := by
  simp only [R_Calendar___contains__, F_Calendar___contains__, calD]
  walk_at "ev10"
  rw [is_number_is]
  walk_at "ev10"
  by_cases e : 1 ≤ n
  · rw [decide_eq_true (show 1 ≤ (n : Int) by omega), decide_eq_true e]
    walk_at "ev10"
    rw [is_size_is c n h.p1]
    walk_at "ev10"
  · rw [decide_eq_false (show ¬ 1 ≤ (n : Int) by omega), decide_eq_false e]
    walk_at "ev10"
theorem start_is (c : Tel) : R_Calendar_start [calD c] = M.ret (.int (c.s : Int)) := by
  simp only [R_Calendar_start, F_Calendar_start, calD, telD]
  walk_at "ev10"
theorem period_is (c : Tel) : R_Calendar_period [calD c] = M.ret (.int (c.p : Int)) := by
  simp only [R_Calendar_period, F_Calendar_period, calD, telD]
  walk_at "ev10"
theorem early_is (c : Tel) : R_Calendar_early [calD c] = M.ret (natL c.es) := by
  simp only [R_Calendar_early, F_Calendar_early, calD, telD]
  walk_at "ev10"
theorem rests_is (c : Tel) : R_Calendar_rests [calD c] = M.ret (natL c.rs) := by
  simp only [R_Calendar_rests, F_Calendar_rests, calD, telD]
  walk_at "ev10"
theorem natL_okd {xs : List Nat} (h : ∀ n ∈ xs, n < 10 ^ 12) (hz : xs.length ≤ 4000) : Okd 1 60003 (.lst (natL xs)) := by
  have := Okd.lst (k := 0) (w := 13) (ds := natL xs) fun d hd => by
    obtain ⟨n, hn, rfl⟩ := List.mem_map.mp hd
    have := h n hn
    exact int_okd (by omega) (by omega)
  exact this.mono (Nat.le_refl _) (by rw [natL_len]; omega)
theorem telD_ok {c : Tel} (h : c.Ok) (ez : c.es.length ≤ 4000) (sz : c.s ≤ 5000) (pz : c.p ≤ 4000) (rz : c.rs.length ≤ 4000) : okA (telD c) = true := okA_tup (k := 1) (w := 60003) (fun d hd => by
  rcases List.mem_cons.mp hd with rfl | hd
  · exact natL_okd (fun n hn => by have := h.eb n hn; omega) ez
  rcases List.mem_cons.mp hd with rfl | hd
  · exact (Okd.int (by have := h.s1; omega)).mono (by omega) (by omega)
  rcases List.mem_cons.mp hd with rfl | hd
  · exact (Okd.int (by have := h.s1; omega)).mono (by omega) (by omega)
  rw [List.mem_singleton.mp hd]
  exact natL_okd (fun n hn => by have := h.rb n hn; omega) rz) (by omega) (by simp)
theorem calI_is {c : Tel} (h : c.Ok) (ez : c.es.length ≤ 4000) (sz : c.s ≤ 5000) (pz : c.p ≤ 4000) (rz : c.rs.length ≤ 4000) : calI [.int (c.s : Int), .lst (natL c.es), .int (c.p : Int), .lst (natL c.rs)] = M.ret [telD c.plain] := by
  have s1 := h.s1
  have p1 := h.p1
  have e := plain_telling_is h ez sz pz rz
  unfold telD at e
  have tb : truD (D.bl true) = M.ret true := rfl
  show M.guard _ _ = _
  rw [M.guard_of (by rw [Bool.and_eq_true, decide_eq_true_iff, decide_eq_true_iff]; omega), are_ints_is (pwN_nodup h.ea) (fun n hn => by have := h.eb n hn; omega) (by omega), M.ret_bind, tb, M.ret_bind, M.guard_true, are_ints_is (pwN_nodup h.ra) (fun n hn => by have := h.rb n hn; omega) (by omega), M.ret_bind, tb, M.ret_bind, M.guard_true, sorted_nat h.ea (List.Perm.refl _), sorted_nat h.ra (List.Perm.refl _), M.ret_bind, M.ret_bind, e, M.ret_bind]
  rfl
def F_step_sums : Env2 → M Out :=
  (seqM (setNM 2 [1] (n2 catL (eN (nLst (aC (cst (.bl true)) aN))) (e2 mulD (eN (nLst (aC (cst (.bl false)) aN))) (rdEnv 1))))
  (seqM (forRM [1] (iRg2 (aC (cst (.int 1)) (aC (e2 addD (rdEnv 1) (cst (.int 1))) aN))) (bName 3)
  (setAtM 2 [0, 2, 3, 4] (eCall anyF (aC (eN (nLc [4] (iAny (rdEnv 0)) (bName 4) cT (eAnd (e2 leD (rdEnv 4) (rdEnv 3)) (e2 ixF (rdEnv 2) (e2 subD (rdEnv 3) (rdEnv 4)))))) aN)) (rdEnv 3)))
  (retNM [1, 2, 3] (nLc [3] (iRg2 (aC (cst (.int 1)) (aC (e2 addD (rdEnv 1) (cst (.int 1))) aN))) (bName 3) (tVal (e2 ixF (rdEnv 2) (rdEnv 3))) (rdEnv 3)))))
def R_step_sums : List D → M (List D) := runN 5 F_step_sums
def F_greatest_divisor : Env2 → M Out :=
  (seqM (setM 1 [] (cst (.int 0)))
  (seqM (forA [0] (iAny (rdEnv 0)) (bName 2)
  (seqM (parM 3 4 [1, 2] (aC (rdEnv 1) (aC (rdEnv 2) aN)))
  (seqM (whileM [3] (t2 gtD (rdEnv 3) (cst (.int 0)))
  (parM 3 4 [3, 4] (aC (e2 modD (rdEnv 4) (rdEnv 3)) (aC (rdEnv 3) aN))) 1000000)
  (setM 1 [4] (rdEnv 4)))))
  (retM [1] (rdEnv 1))))
def R_greatest_divisor : List D → M D := runD 5 F_greatest_divisor
def F_Calendar_of_steps : Env2 → M Out :=
  (seqM (ifM [0] (t2 (eqD false) (eCall lenG (aC (rdEnv 0) aN)) (cst (.int 0)))
  (retM [] (eMake 2 calI (aC (cst (.int 1)) (aC (eN (nLst aN)) (aC (cst (.int 1)) (aC (eN (nLst aN)) aN))))))
  sNil)
  (seqM (setM 1 [0] (e2 mulD (eCall maxG (aC (rdEnv 0) aN)) (eCall maxG (aC (rdEnv 0) aN))))
  (retM [0, 1] (eMake 2 calI (aC (e2 addD (rdEnv 1) (cst (.int 1))) (aC (eN (nCall R_step_sums (aC (rdEnv 0) (aC (rdEnv 1) aN)))) (aC (eCall R_greatest_divisor (aC (rdEnv 0) aN)) (aC (eN (nLst (aC (cst (.int 0)) aN))) aN))))))))
def R_Calendar_of_steps : List D → M D := runD 2 F_Calendar_of_steps
def flL (st : List Nat) (m i : Nat) : List D := (tabL st i).map D.bl ++ List.replicate (m - i) (D.bl false)
theorem flL_len (st : List Nat) {m i : Nat} (h : i ≤ m) : (flL st m i).length = m + 1 := by
  unfold flL
  rw [List.length_append, List.length_map, tab_len, List.length_replicate]; omega
theorem flL_flat (st : List Nat) (m i : Nat) : (flL st m i).all D.flat = true := by
  rw [List.all_eq_true]
  intro d hd
  rcases List.mem_append.mp hd with h | h
  · obtain ⟨b, _, rfl⟩ := List.mem_map.mp h; rfl
  · rw [List.eq_of_mem_replicate h]; rfl
theorem flL_at (st : List Nat) {m i j : Nat} (h : j ≤ i) : (flL st m i)[j]? = some (.bl ((tabL st i).getD j false)) := by
  unfold flL
  have hl := tab_len st i
  rw [List.getElem?_append_left (by rw [List.length_map]; omega), List.getElem?_map, List.getD_eq_getElem?_getD, List.getElem?_eq_getElem (by omega)]
  rfl
theorem flL_set (st : List Nat) {m i : Nat} (h : i < m) : (flL st m i).set (i + 1) (.bl (st.any fun s => decide (s ≤ i + 1) && (tabL st i).getD (i + 1 - s) false)) = flL st m (i + 1) := by
  unfold flL
  have hl := tab_len st i
  rw [List.set_append_right _ _ (by rw [List.length_map]; omega), List.length_map, hl, Nat.sub_self, show m - i = (m - (i + 1)) + 1 by omega, List.replicate_succ, List.set_cons_zero]
  show _ = (tabL st i ++ [_]).map D.bl ++ _
  rw [List.map_append, List.append_assoc]
  rfl
theorem anyF_map {α : Type} (xs : List α) (f : α → Bool) : anyF [.lst (xs.map fun a => D.bl (f a))] = M.ret (.bl (xs.any f)) := by
  show (match blsD (xs.map fun a => D.bl (f a)) with
    | some bs => M.ret (D.bl (bs.any id))
    | none => M.fail) = _
  rw [blsD_map f xs]
  show M.ret (D.bl ((xs.map f).any id)) = _
  rw [List.any_map]; rfl
theorem step_sums_is {x : D} {st : List Nat} (hx : x = .lst (natL st) ∨ x = .tup (natL st)) (h1 : ∀ s ∈ st, 1 ≤ s) (hz : st.length ≤ 20) (m : Nat) (hm : m ≤ 2000) : R_step_sums [x, .int (m : Int)] = M.ret (natL ((List.range' 1 m).filter fun n => reach st n)) := by
  have sl := natL_len st
  have rp : repL [D.bl false] m = List.replicate m (D.bl false) := by
    unfold repL
    induction m with
    | zero => rfl
    | succ m ih => rw [List.replicate_succ, List.replicate_succ, List.flatten_cons, ih (by omega)]; rfl
  have f0 : D.bl true :: List.replicate m (D.bl false) = flL st m 0 := by
    unfold flL
    rw [Nat.sub_zero]; rfl
  have fl0 : (List.replicate m (D.bl false)).all D.flat = true := by
    rw [List.all_eq_true]
    intro d hd
    rw [List.eq_of_mem_replicate hd]; rfl
  have ok : okRep [D.bl false].length (m : Int) = true := by
    unfold okRep
    rw [Bool.and_eq_true, Bool.and_eq_true, decide_eq_true_iff, decide_eq_true_iff, decide_eq_true_iff, sizeLine_eq, List.length_singleton]
    omega
  simp only [R_step_sums, F_step_sums]
  have itx : itemsD x = M.ret (natL st) := by rcases hx with h | h <;> rw [h] <;> rfl
  have fx : x.flat = false := by rcases hx with h | h <;> rw [h] <;> rfl
  clear hx
  generalize x = X0 at itx fx ⊢
  · walk_at "ev10"
    rw [show mulD (D.lst [D.bl false]) (D.int (m : Int)) = M.ret (.lst (repL [D.bl false] m)) from M.guard_of ok, rp]
    walk_at "ev10"
    rw [fl0, f0]
    walk_at "ev10"
    rw [show (m : Int) + 1 - 1 = (m : Int) by omega, Int.toNat_natCast]
    refine loop_bindI (inj := fun (k : Nat) => D.int (1 + (k : Int))) (fun i ρ => i ≤ m ∧ ∃ s3, ρ = [some (.val X0), some (.val (.int (m : Int))), some (.own (flL st m i)), s3, none]) ⟨Nat.zero_le _, _, rfl⟩ ?_ ?_
    · rintro i k ρ hk ⟨hi, s3, rfl⟩
      obtain ⟨hk1, rfl⟩ := range_at hk
      refine ⟨[(3, .int (1 + (k : Int)))], [some (.val X0), some (.val (.int (m : Int))), some (.own (flL st m (k + 1))), some (.val (.int (1 + (k : Int)))), none], rfl, .inl ?_, by omega, _, rfl⟩
      have fl := flL_flat st m k
      have ll := flL_len st hi
      walk_at "ev10"
      rw [itx]
      walk_at "ev10"
      rw [show natL st = st.map fun (n : Nat) => D.int (n : Int) from rfl, compM_mapI (l := fun (q : Nat) => [(4, D.int (q : Int))]) (y := fun (q : Nat) => D.bl (decide (q ≤ k + 1) && (tabL st k).getD (k + 1 - q) false)) (xs := st) fun q hq => ⟨rfl, rfl, by
        have q1 := h1 q hq
        walk_at "ev10"
        by_cases e : q ≤ k + 1
        · rw [decide_eq_true (show (q : Int) ≤ 1 + (k : Int) by omega), decide_eq_true e]
          walk_at "ev10"
          rw [show (1 : Int) + (k : Int) - (q : Int) = ((k + 1 - q : Nat) : Int) by omega]
          rw [atI_nat (flL_at st (m := m) (show k + 1 - q ≤ k by omega))]
          try rfl
        · rw [decide_eq_false (show ¬ (q : Int) ≤ 1 + (k : Int) by omega), decide_eq_false e]
          walk_at "ev10"⟩]
      walk_at "ev10"
      rw [anyF_map st fun q => decide (q ≤ k + 1) && (tabL st k).getD (k + 1 - q) false]
      walk_at "ev10"
      rw [show (1 : Int) + (k : Int) = ((k + 1 : Nat) : Int) by omega, setAt_own rfl (by omega), flL_set st hk1]
      try rfl
    · rintro ρ ⟨hi, s3, rfl⟩
      rw [List.length_range]
      have fl := flL_flat st m m
      have ll := flL_len st (Nat.le_refl m)
      walk_at "ev10"
      rw [show (m : Int) + 1 - 1 = (m : Int) by omega, rng1_nat m (by omega)]
      rw [show natL (List.range' 1 m) = (List.range' 1 m).map fun (n : Nat) => D.int (n : Int) from rfl, compM_filterI (l := fun (n : Nat) => [(3, D.int (n : Int))]) (k := fun n => reach st n) (y := fun (n : Nat) => D.int (n : Int)) (xs := List.range' 1 m) fun n hn => ⟨rfl, by
        have := List.mem_range'_1.mp hn
        walk_at "ev10"
        rw [atI_nat (flL_at st (m := m) (show n ≤ m by omega)), tab_get st (show n ≤ m by omega)]
        walk_at "ev10", by walk_at "ev10"⟩]
      rw [show ((List.range' 1 m).filter fun n => reach st n).map (fun (n : Nat) => D.int (n : Int)) = natL ((List.range' 1 m).filter fun n => reach st n) from rfl]
      have rl := natL_len ((List.range' 1 m).filter fun n => reach st n)
      have rz := List.length_filter_le (fun n => reach st n) (List.range' 1 m)
      rw [List.length_range'] at rz
      walk_at "ev10"
theorem foldl_gcd : ∀ (st : List Nat) (g : Nat), st.foldl Nat.gcd g = Nat.gcd g (gcdL st)
  | [], g => by show g = Nat.gcd g 0; rw [Nat.gcd_zero_right]
  | s :: st, g => by
    rw [List.foldl_cons, foldl_gcd st, Nat.gcd_assoc]
    rfl
theorem euclid {s0 s1 s2 : Option DL.Slot} : ∀ (n fuel a b : Nat), a ≤ n → n < fuel → whileM [3] (t2 gtD (rdEnv 3) (cst (.int 0))) (parM 3 4 [3, 4] (aC (e2 modD (rdEnv 4) (rdEnv 3)) (aC (rdEnv 3) aN))) fuel [s0, s1, s2, some (.val (.int (a : Int))), some (.val (.int (b : Int)))] = M.ret (.nx [s0, s1, s2, some (.val (.int 0)), some (.val (.int ((Nat.gcd a b : Nat) : Int)))])
  | n, fuel + 1, a, b, ha, hf => by
    rw [q_whileM]
    by_cases e : a = 0
    · subst e
      walk_at "ev10"
      rw [Nat.gcd_zero_left]
    · have e1 : 1 ≤ a := by omega
      walk_at "ev10"
      rw [natmod, euclid (a - 1) fuel (b % a) a (by have := Nat.mod_lt b e1; omega) (by omega), ← Nat.gcd_rec]
theorem greatest_is {x : D} {st : List Nat} (hx : x = .lst (natL st) ∨ x = .tup (natL st)) (h1 : ∀ s ∈ st, 1 ≤ s ∧ s ≤ 1000) : R_greatest_divisor [x] = M.ret (.int ((gcdL st : Nat) : Int)) := by
  have itx : itemsD x = M.ret (natL st) := by rcases hx with h | h <;> rw [h] <;> rfl
  have fx : x.flat = false := by rcases hx with h | h <;> rw [h] <;> rfl
  clear hx
  simp only [R_greatest_divisor, F_greatest_divisor]
  generalize x = X0 at itx fx ⊢
  walk_at "ev10"
  rw [itx]
  walk_at "ev10"
  rw [show natL st = st.map fun (n : Nat) => D.int (n : Int) from rfl]
  have gb : ∀ i, (st.take i).foldl Nat.gcd 0 ≤ 1000 := by
    intro i
    cases i with
    | zero => exact Nat.zero_le _
    | succ i =>
      cases st with
      | nil => exact Nat.zero_le _
      | cons s r =>
        rw [List.take_succ_cons, List.foldl_cons, foldl_gcd, Nat.gcd_zero_left]
        have s1 := h1 s List.mem_cons_self
        exact Nat.le_trans (Nat.gcd_le_left _ s1.1) s1.2
  refine loop_bindI (inj := fun (n : Nat) => D.int (n : Int)) (fun i ρ => ∃ s2 s3 s4, ρ = [some (.val X0), some (.val (.int (((st.take i).foldl Nat.gcd 0 : Nat) : Int))), s2, s3, s4]) ⟨_, _, _, rfl⟩ ?_ ?_
  · rintro i k ρ hk ⟨s2, s3, s4, rfl⟩
    have gi := gb i
    refine ⟨_, [some (.val X0), some (.val (.int (((st.take (i + 1)).foldl Nat.gcd 0 : Nat) : Int))), some (.val (.int (k : Int))), some (.val (.int 0)), some (.val (.int (((st.take (i + 1)).foldl Nat.gcd 0 : Nat) : Int)))], rfl, .inl ?_, _, _, _, rfl⟩
    have tk : (st.take (i + 1)).foldl Nat.gcd 0 = Nat.gcd ((st.take i).foldl Nat.gcd 0) k := by
      rw [List.take_add_one, hk]
      show (st.take i ++ [k]).foldl _ _ = _
      rw [List.foldl_append]; rfl
    rw [tk]
    generalize (st.take i).foldl Nat.gcd 0 = g at gi ⊢
    have eu := euclid (s0 := some (.val X0)) (s1 := some (.val (.int (g : Int)))) (s2 := some (.val (.int (k : Int)))) 1000 1000000 g k gi (by omega)
    generalize 1000000 = F0 at eu ⊢
    walk_at "ev10"
    rw [eu]
    walk_at "ev10"
  · rintro ρ ⟨s2, s3, s4, rfl⟩
    rw [List.take_length, foldl_gcd, Nat.gcd_zero_left]
    walk_at "ev10"
def stepT (st : List Nat) (mx : Nat) : Tel := ⟨(List.range' 1 (mx * mx)).filter fun n => reach st n, mx * mx + 1, gcdL st, [0]⟩
theorem gcdL_pos {st : List Nat} (h1 : ∀ s ∈ st, 1 ≤ s) (h : st ≠ []) : 1 ≤ gcdL st := by
  cases st with
  | nil => exact absurd rfl h
  | cons s r => exact Nat.gcd_pos_of_pos_left _ (h1 s List.mem_cons_self)
theorem gcdL_le {st : List Nat} {mx : Nat} (h1 : ∀ s ∈ st, 1 ≤ s) (hm : mx ∈ st) : gcdL st ≤ mx := Nat.le_of_dvd (h1 mx hm) (gcdL_dvd hm)
theorem stepT_ok {st : List Nat} {mx : Nat} (h1 : ∀ s ∈ st, 1 ≤ s) (h : st ≠ []) : (stepT st mx).Ok := by
  have g := gcdL_pos h1 h
  refine ⟨Nat.le_add_left _ _, g, (range1_pw _).filter _, fun n hn => ?_, List.pairwise_singleton _ _, fun r hr => ?_⟩
  · have := List.mem_range'_1.mp (List.mem_filter.mp hn).1
    show 1 ≤ n ∧ n < mx * mx + 1
    omega
  · rw [List.mem_singleton.mp hr]; exact g
theorem natL_max {st : List Nat} (h : st ≠ []) : ∃ mx, maxL (st.map fun (n : Nat) => (n : Int)) = ((mx : Nat) : Int) ∧ mx ∈ st ∧ ∀ s ∈ st, s ≤ mx := by
  cases st with
  | nil => exact absurd rfl h
  | cons a r =>
    have hm := foldl_max (r.map fun (n : Nat) => (n : Int)) (a : Int)
    have e : maxL ((a :: r).map fun (n : Nat) => (n : Int)) = (r.map fun (n : Nat) => (n : Int)).foldl max (a : Int) := rfl
    obtain ⟨mx, h1, h2⟩ := List.mem_map.mp (show (r.map fun (n : Nat) => (n : Int)).foldl max (a : Int) ∈ (a :: r).map fun (n : Nat) => (n : Int) from hm.1)
    refine ⟨mx, by rw [e, ← h2], h1, fun s hs => ?_⟩
    have := hm.2 (s : Int) (List.mem_map.mpr ⟨s, hs, rfl⟩)
    rw [← h2] at this
    omega
theorem maxF_nat {l : List Int} (h : l ≠ []) : maxF [.lst (l.map D.int)] = M.ret (.int (maxL l)) := by
  cases l with
  | nil => exact absurd rfl h
  | cons i r =>
    show (match intsD ((i :: r).map D.int) with
      | some (i :: r) => M.ret (D.int (maxL (i :: r)))
      | _ => M.fail) = _
    rw [intsD_map]
theorem stepT_per {st : List Nat} {mx : Nat} (h1 : ∀ s ∈ st, 1 ≤ s) (h : st ≠ []) : (stepT st mx).per = gcdL st := by
  have g := gcdL_pos h1 h
  obtain ⟨⟨d1, d2, d3⟩, hc, hmin⟩ := leastP_is (p := gcdL st) (rs := [0]) g (fun r hr => by rw [List.mem_singleton.mp hr]; exact g)
  show leastP (gcdL st) [0] = gcdL st
  generalize leastP (gcdL st) [0] = d at *
  have := of_decide_eq_true (List.all_eq_true.mp hc 0 List.mem_cons_self)
  rw [Nat.zero_add, List.mem_singleton] at this
  rcases Nat.lt_or_ge d (gcdL st) with z | z
  · rw [Nat.mod_eq_of_lt z] at this; omega
  · omega
theorem stepT_few {st : List Nat} {mx : Nat} (h1 : ∀ s ∈ st, 1 ≤ s) (h : st ≠ []) : (stepT st mx).few = [0] := by
  have g := gcdL_pos h1 h
  refine pwN_ext (few_pw _ _) (List.pairwise_singleton _ _) fun n => ?_
  unfold Tel.few
  rw [few_mem, stepT_per h1 h, List.mem_singleton]
  constructor
  · rintro ⟨_, q, hq, e⟩
    have hq : q ∈ [0] := hq
    rw [List.mem_singleton.mp hq, Nat.zero_mod] at e
    exact e.symm
  · rintro rfl
    exact ⟨g, 0, List.mem_cons_self, Nat.zero_mod _⟩
theorem stepT_un {st : List Nat} {mx n : Nat} (h1 : ∀ s ∈ st, 1 ≤ s) (hm : mx ∈ st) (hx : ∀ s ∈ st, s ≤ mx) : n ∈ unL (stepT st mx).s (stepT st mx).es (stepT st mx).few (stepT st mx).per ↔ 1 ≤ n ∧ n ≤ mx * mx ∧ reach st n = false ∧ gcdL st ∣ n := by
  have h : st ≠ [] := fun e => by rw [e] at hm; cases hm
  rw [un_mem, stepT_few h1 h, stepT_per h1 h]
  show 1 ≤ n ∧ n < mx * mx + 1 ∧ ¬ (n ∈ (List.range' 1 (mx * mx)).filter (fun n => reach st n) ↔ n % gcdL st ∈ [0]) ↔ _
  rw [List.mem_filter, List.mem_range'_1, List.mem_singleton]
  constructor
  · rintro ⟨a, b, c⟩
    refine ⟨a, by omega, ?_, ?_⟩
    · cases e : reach st n with
      | false => rfl
      | true => exact absurd ⟨fun _ => Nat.mod_eq_zero_of_dvd (reach_dvd h1 e), fun _ => ⟨⟨a, by omega⟩, e⟩⟩ c
    · refine Nat.dvd_of_mod_eq_zero ?_
      rcases Nat.eq_zero_or_pos (n % gcdL st) with z | z
      · exact z
      · exact absurd ⟨fun q => Nat.mod_eq_zero_of_dvd (reach_dvd h1 q.2), fun q => by omega⟩ c
  · rintro ⟨a, b, c, d⟩
    refine ⟨a, by omega, fun q => ?_⟩
    have := (q.mpr (Nat.mod_eq_zero_of_dvd d)).2
    rw [c] at this; cases this
theorem stepT_first {st : List Nat} {mx a : Nat} (h1 : ∀ s ∈ st, 1 ≤ s) (hm : mx ∈ st) (hx : ∀ s ∈ st, s ≤ mx) (ha : a ∈ st) : 1 ≤ (stepT st mx).first ∧ (stepT st mx).first ≤ a * mx ∧ (stepT st mx).first ≤ mx * mx + 1 ∧ ((stepT st mx).first = 1 ∨ reach st ((stepT st mx).first - 1) = false ∧ gcdL st ∣ (stepT st mx).first - 1) := by
  have a1 := h1 a ha
  have m1 := h1 mx hm
  have am : 1 ≤ a * mx := Nat.mul_pos a1 m1
  obtain ⟨f1, f2, f3⟩ := (stepT st mx).first_is
  generalize (stepT st mx).first = f at *
  rcases f3 with rfl | f3
  · exact ⟨Nat.le_refl _, am, by omega, .inl rfl⟩
  · obtain ⟨a2, a3, a4, a5⟩ := (stepT_un h1 hm hx).mp f3
    refine ⟨f1, ?_, by omega, .inr ⟨a4, a5⟩⟩
    rcases Nat.lt_or_ge (f - 1) (a * mx) with z | z
    · omega
    · rw [reach_far h1 ha hx a5 z] at a4; cases a4
theorem of_steps_is {x : D} {st : List Nat} (hx : x = .lst (natL st) ∨ x = .tup (natL st)) (h1 : ∀ s ∈ st, 1 ≤ s ∧ s ≤ 40) (hz : st.length ≤ 20) (h : st ≠ []) {mx : Nat} (hm : mx ∈ st) (hmx : ∀ s ∈ st, s ≤ mx) : R_Calendar_of_steps [x] = M.ret (calD (stepT st mx).plain) := by
  have sl := natL_len st
  have m1 := h1 mx hm
  have len : lenG [x] = M.ret (.int (st.length : Nat)) := by rcases hx with h | h <;> rw [h, ← sl] <;> rfl
  have mxe : maxG [x] = M.ret (.int (mx : Int)) := by
    obtain ⟨m, e1, e2, e3⟩ := natL_max h
    have e : m = mx := Nat.le_antisymm (hmx m e2) (e3 mx hm)
    subst e
    rw [← e1, ← maxF_nat (l := st.map fun (n : Nat) => (n : Int)) (by simpa using h), ← natL_ints]
    rcases hx with h | h <;> rw [h] <;> rfl
  have ss := step_sums_is hx (fun s hs => (h1 s hs).1) hz (mx * mx) (by have := Nat.mul_le_mul m1.2 m1.2; omega)
  have gd := greatest_is hx (fun s hs => by have := h1 s hs; omega)
  have fx : x.flat = false := by rcases hx with h | h <;> rw [h] <;> rfl
  have sp : 0 < st.length := List.length_pos_iff.mpr h
  simp only [R_Calendar_of_steps, F_Calendar_of_steps]
  clear hx
  generalize x = X0 at *
  walk_at "ev10"
  rw [len]
  walk_at "ev10"
  rw [mxe]
  walk_at "ev10"
  rw [mxe]
  walk_at "ev10"
  rw [show (mx : Int) * (mx : Int) = ((mx * mx : Nat) : Int) from (Int.natCast_mul _ _).symm]
  rw [ss]
  walk_at "ev10"
  rw [gd]
  walk_at "ev10"
  have ci := calI_is (stepT_ok (mx := mx) (fun s hs => (h1 s hs).1) h) (by
    show ((List.range' 1 (mx * mx)).filter fun n => reach st n).length ≤ 4000
    have := List.length_filter_le (fun n => reach st n) (List.range' 1 (mx * mx))
    rw [List.length_range'] at this
    have := Nat.mul_le_mul m1.2 m1.2
    omega) (by
    show mx * mx + 1 ≤ 5000
    have := Nat.mul_le_mul m1.2 m1.2
    omega) (by
    have := gcdL_le (fun s hs => (h1 s hs).1) hm
    show gcdL st ≤ 4000
    omega) (by show 1 ≤ 4000; omega)
  rw [show ((mx * mx : Nat) : Int) + 1 = ((mx * mx + 1 : Nat) : Int) by omega]
  have ci : calI [.int ((mx * mx + 1 : Nat) : Int), .lst (natL ((List.range' 1 (mx * mx)).filter fun n => reach st n)), .int ((gcdL st : Nat) : Int), .lst [.int 0]] = M.ret [telD (stepT st mx).plain] := ci
  rw [ci]
  walk_at "ev10"
  try rfl
theorem prop_start (c : Tel) : propD 2 R_Calendar_start (calD c) = M.ret (.int (c.s : Int)) := (propD_obj 2 _ [telD c]).trans (start_is c)
theorem prop_period (c : Tel) : propD 2 R_Calendar_period (calD c) = M.ret (.int (c.p : Int)) := (propD_obj 2 _ [telD c]).trans (period_is c)
theorem prop_early (c : Tel) : propN 2 R_Calendar_early (calD c) = M.ret (natL c.es) := (propN_obj 2 _ [telD c]).trans (early_is c)
theorem prop_rests (c : Tel) : propN 2 R_Calendar_rests (calD c) = M.ret (natL c.rs) := (propN_obj 2 _ [telD c]).trans (rests_is c)
theorem in_cal {c : Tel} (h : c.Ok) (neg : Bool) (n : Nat) : inO neg 2 R_Calendar___contains__ (.int (n : Int)) (calD c) = M.ret (.bl (if neg then !(decide (1 ≤ n) && c.has n) else decide (1 ≤ n) && c.has n)) := by
  refine (q_inO neg 2 _ _ [telD c]).trans ?_
  have := contains_is h n
  unfold calD at this
  rw [this]
  rfl
theorem guard_cal {α : Type} (c : Tel) (m : M α) : M.guard (isC 2 (calD c)) m = m := M.guard_of (by show (2 == 2) = true; rfl)
theorem cal_flat (c : Tel) : (calD c).flat = false := rfl
def Tel.neg (c : Tel) : Tel := ⟨(List.range' 1 (c.s - 1)).filter fun n => decide (n ∉ c.es), c.s, c.p, (List.range c.p).filter fun r => decide (r ∉ c.rs)⟩
theorem Tel.neg_ok {c : Tel} (h : c.Ok) : c.neg.Ok := by
  refine ⟨h.s1, h.p1, (range1_pw _).filter _, fun n hn => ?_, List.Pairwise.filter _ List.pairwise_lt_range, fun r hr => ?_⟩
  · have := List.mem_range'_1.mp (List.mem_filter.mp hn).1
    have := h.s1
    show 1 ≤ n ∧ n < c.s
    omega
  · exact List.mem_range.mp (List.mem_filter.mp hr).1
theorem Tel.neg_has {c : Tel} (h : c.Ok) {n : Nat} (hn : 1 ≤ n) : c.neg.has n = !c.has n := by
  unfold Tel.has
  show (if n < c.s then decide (n ∈ (List.range' 1 (c.s - 1)).filter _) else decide (n % c.p ∈ (List.range c.p).filter _)) = _
  by_cases e : n < c.s
  · rw [if_pos e, if_pos e, ← decide_not, decide_eq_decide, List.mem_filter, List.mem_range'_1, decide_eq_true_iff]
    exact ⟨fun q => q.2, fun q => ⟨by omega, q⟩⟩
  · rw [if_neg e, if_neg e, ← decide_not, decide_eq_decide, List.mem_filter, List.mem_range, decide_eq_true_iff]
    exact ⟨fun q => q.2, fun q => ⟨Nat.mod_lt _ h.p1, q⟩⟩
def joinS (f : Bool → Bool → Bool) (c d : Tel) : List Nat := (List.range' 1 (max c.s d.s + Nat.lcm c.p d.p - 1)).filter fun n => f (c.has n) (d.has n)
def Tel.join (f : Bool → Bool → Bool) (c d : Tel) : Tel := ⟨(joinS f c d).filter fun n => decide (n < max c.s d.s), max c.s d.s, Nat.lcm c.p d.p, (List.range (Nat.lcm c.p d.p)).filter fun r => (joinS f c d).any fun n => decide (max c.s d.s ≤ n) && decide (n % Nat.lcm c.p d.p = r)⟩
theorem lcm_pos {a b : Nat} (h : 1 ≤ a) (k : 1 ≤ b) : 1 ≤ Nat.lcm a b := Nat.lcm_pos h k
theorem Tel.join_ok {f : Bool → Bool → Bool} {c d : Tel} (h : c.Ok) (k : d.Ok) : (Tel.join f c d).Ok := by
  have := h.s1
  refine ⟨by show 1 ≤ max c.s d.s; omega, lcm_pos h.p1 k.p1, (((range1_pw _).filter _).filter _), fun n hn => ?_, List.Pairwise.filter _ List.pairwise_lt_range, fun r hr => ?_⟩
  · obtain ⟨a, b⟩ := List.mem_filter.mp hn
    have := List.mem_range'_1.mp (List.mem_filter.mp a).1
    exact ⟨this.1, of_decide_eq_true b⟩
  · exact List.mem_range.mp (List.mem_filter.mp hr).1
theorem Tel.has_mod {c : Tel} {n m P : Nat} (hp : c.p ∣ P) (hn : c.s ≤ n) (hm : c.s ≤ m) (e : n % P = m % P) : c.has n = c.has m := by
  unfold Tel.has
  rw [if_neg (by omega), if_neg (by omega)]
  rw [← Nat.mod_mod_of_dvd n hp, ← Nat.mod_mod_of_dvd m hp, e]
theorem Tel.join_has {f : Bool → Bool → Bool} {c d : Tel} (h : c.Ok) (k : d.Ok) {n : Nat} (hn : 1 ≤ n) : (Tel.join f c d).has n = f (c.has n) (d.has n) := by
  have P1 := lcm_pos h.p1 k.p1
  have s1 := h.s1
  unfold Tel.has
  rw [Bool.eq_iff_iff]
  by_cases e : n < max c.s d.s
  · rw [if_pos (show n < (Tel.join f c d).s from e), decide_eq_true_iff]
    show n ∈ (joinS f c d).filter (fun n => decide (n < max c.s d.s)) ↔ f (c.has n) (d.has n) = true
    unfold joinS
    rw [List.mem_filter, List.mem_filter, List.mem_range'_1, decide_eq_true_iff]
    exact ⟨fun q => q.1.2, fun q => ⟨⟨by omega, q⟩, e⟩⟩
  · rw [if_neg (show ¬ n < (Tel.join f c d).s from e), decide_eq_true_iff]
    show n % Nat.lcm c.p d.p ∈ (List.range (Nat.lcm c.p d.p)).filter (fun r => (joinS f c d).any fun n => decide (max c.s d.s ≤ n) && decide (n % Nat.lcm c.p d.p = r)) ↔ f (c.has n) (d.has n) = true
    have one : ∀ m, max c.s d.s ≤ m → m % Nat.lcm c.p d.p = n % Nat.lcm c.p d.p → f (c.has m) (d.has m) = f (c.has n) (d.has n) := fun m hm em => by
      rw [Tel.has_mod (Nat.dvd_lcm_left c.p d.p) (by omega) (by omega) em, Tel.has_mod (Nat.dvd_lcm_right c.p d.p) (by omega) (by omega) em]
    rw [List.mem_filter, List.mem_range, List.any_eq_true]
    unfold joinS
    constructor
    · rintro ⟨_, m, hm, q⟩
      rw [Bool.and_eq_true, decide_eq_true_iff, decide_eq_true_iff] at q
      rw [← one m q.1 q.2]
      exact (List.mem_filter.mp hm).2
    · intro q
      refine ⟨Nat.mod_lt _ P1, ?_⟩
      -- the number of the first round that leaves the same
      generalize hS : max c.s d.s = S at *
      generalize hP : Nat.lcm c.p d.p = P at *
      have hr := Nat.mod_lt (n - S) P1
      have a1 := Nat.div_add_mod (n - S) P
      have em : (S + (n - S) % P) % P = n % P := by
        have : n = S + (n - S) % P + P * ((n - S) / P) := by omega
        rw [show n % P = (S + (n - S) % P + P * ((n - S) / P)) % P by rw [← this], Nat.add_mul_mod_self_left]
      refine ⟨S + (n - S) % P, ?_, ?_⟩
      · rw [List.mem_filter, List.mem_range'_1]
        exact ⟨by omega, by rw [one _ (by omega) em]; exact q⟩
      · rw [Bool.and_eq_true, decide_eq_true_iff, decide_eq_true_iff]
        exact ⟨by omega, em⟩
structure Pln (c : Tel) : Prop where
  ok : c.Ok
  eq : c.plain = c
theorem pln_of {c : Tel} (h : c.Ok) : Pln c.plain := ⟨Tel.plain_ok h, Tel.uniq (Tel.plain_ok h) h fun n _ => Tel.plain_has h n⟩
theorem pln_ext {c d : Tel} (hc : Pln c) (hd : Pln d) (h : ∀ n, 1 ≤ n → c.has n = d.has n) : c = d := by
  rw [← hc.eq, ← hd.eq]
  exact Tel.uniq hc.ok hd.ok h
theorem pln_nil {c : Tel} (h : c.Ok) : (c.es = [] ∧ c.rs = []) ↔ ∀ n, 1 ≤ n → c.has n = false := by
  constructor
  · rintro ⟨a, b⟩ n hn
    unfold Tel.has
    rw [a, b]
    split <;> rfl
  · intro q
    refine ⟨List.eq_nil_iff_forall_not_mem.mpr fun n hn => ?_, List.eq_nil_iff_forall_not_mem.mpr fun r hr => ?_⟩
    · obtain ⟨a, b⟩ := h.eb n hn
      have := q n a
      unfold Tel.has at this
      rw [if_pos b] at this
      exact of_decide_eq_false this hn
    · have r1 := h.rb r hr
      have s1 := h.s1
      have le := Nat.le_mul_of_pos_right c.s (show 0 < c.p from h.p1)
      have := q (r + c.s * c.p) (by omega)
      unfold Tel.has at this
      rw [if_neg (by omega), Nat.add_mul_mod_self_right, Nat.mod_eq_of_lt r1] at this
      exact of_decide_eq_false this hr
theorem Tel.per_le {c : Tel} (h : c.Ok) : c.per ∣ c.p ∧ c.per ≤ c.p := by
  obtain ⟨⟨d1, d2, d3⟩, hc, hmin⟩ := leastP_is h.p1 h.rb
  exact ⟨Nat.dvd_of_mod_eq_zero d3, d2⟩
theorem pwN_len {xs : List Nat} {lo hi : Nat} (h : xs.Pairwise (· < ·)) (b : ∀ n ∈ xs, lo ≤ n ∧ n < hi) : xs.length ≤ hi - lo := by
  have := nd_le (n := hi - lo) (S := xs.map fun n => n - lo) (by
    rw [List.nodup_iff_pairwise_ne, List.pairwise_map]
    refine List.Pairwise.imp_of_mem ?_ h
    intro x y hx hy hxy
    have := b x hx; have := b y hy
    omega) fun s hs => by
      obtain ⟨n, hn, rfl⟩ := List.mem_map.mp hs
      have := b n hn
      omega
  rwa [List.length_map] at this
theorem Tel.es_len {c : Tel} (h : c.Ok) : c.es.length ≤ c.s := Nat.le_trans (pwN_len h.ea h.eb) (Nat.sub_le _ _)
theorem Tel.rs_len {c : Tel} (h : c.Ok) : c.rs.length ≤ c.p := Nat.le_trans (pwN_len (lo := 0) h.ra fun n hn => ⟨Nat.zero_le _, h.rb n hn⟩) (Nat.sub_le _ _)
def Tel.cnt (c : Tel) (n : Nat) : Nat := ((List.range' 1 (n - 1)).filter fun k => c.has k).length
theorem ifd (P : Prop) [Decidable P] : (if decide P = true then (1 : Nat) else 0) = if P then 1 else 0 := by
  by_cases h : P <;> simp [h]
theorem rng_pw (s n : Nat) : (List.range' s n).Pairwise (· < ·) := List.pairwise_lt_range'
theorem Tel.cnt_one (c : Tel) : c.cnt 1 = 0 := rfl
theorem Tel.cnt_succ (c : Tel) {n : Nat} (hn : 1 ≤ n) : c.cnt (n + 1) = c.cnt n + if c.has n = true then 1 else 0 := by
  unfold Tel.cnt
  obtain ⟨m, rfl⟩ : ∃ m, n = m + 1 := ⟨n - 1, by omega⟩
  rw [show m + 1 + 1 - 1 = m + 1 by omega, show m + 1 - 1 = m by omega, List.range'_1_concat, List.filter_append, List.length_append, Nat.add_comm 1 m]
  congr 1
  by_cases e : c.has (m + 1) = true
  · rw [if_pos e, List.filter_cons_of_pos e]; rfl
  · rw [if_neg e, List.filter_cons_of_neg e]; rfl
def frN (s p r : Nat) : Nat := s + (((r : Int) - (s : Int)) % (p : Int)).toNat
theorem frN_is {s p r : Nat} (hr : r < p) : s ≤ frN s p r ∧ frN s p r < s + p ∧ frN s p r % p = r := by
  have p0 : (p : Int) ≠ 0 := by omega
  have a := Int.emod_nonneg ((r : Int) - (s : Int)) p0
  have b := Int.emod_lt_of_pos ((r : Int) - (s : Int)) (show (0 : Int) < (p : Int) by omega)
  unfold frN
  refine ⟨Nat.le_add_right _ _, by omega, ?_⟩
  have e : ((s + (((r : Int) - (s : Int)) % (p : Int)).toNat : Nat) : Int) = (s : Int) + ((r : Int) - (s : Int)) % (p : Int) := by rw [Int.natCast_add, Int.toNat_of_nonneg a]
  have : (((s + (((r : Int) - (s : Int)) % (p : Int)).toNat) % p : Nat) : Int) = (r : Int) := by
    rw [Int.natCast_emod, e, Int.add_emod_emod, show (s : Int) + ((r : Int) - (s : Int)) = (r : Int) by omega, Int.emod_eq_of_lt (by omega) (by omega)]
  omega
def crN (s n p r : Nat) : Nat := if n ≤ frN s p r then 0 else (n - 1 - frN s p r) / p + 1
theorem mod_same {a b p : Nat} (h : a % p = b % p) (l : a ≤ b) : p ∣ b - a := Nat.dvd_of_mod_eq_zero (Nat.sub_mod_eq_zero_of_mod_eq h.symm)
theorem succ_div' (a p : Nat) : (a + 1) / p = a / p + if p ∣ a + 1 then 1 else 0 := Nat.succ_div
theorem crN_succ {s n p r : Nat} (hr : r < p) (hn : s ≤ n) : crN s (n + 1) p r = crN s n p r + if n % p = r then 1 else 0 := by
  obtain ⟨f1, f2, f3⟩ := frN_is (s := s) hr
  unfold crN
  generalize frN s p r = f at *
  rcases Nat.lt_trichotomy n f with z | z | z
  · rw [if_pos (by omega), if_pos (by omega), if_neg]
    intro e
    obtain ⟨k, hk⟩ := mod_same (e.trans f3.symm) (Nat.le_of_lt z)
    rcases Nat.eq_zero_or_pos k with q | q
    · rw [q] at hk; omega
    · have := Nat.le_mul_of_pos_right p q
      omega
  · subst z
    rw [if_neg (by omega), if_pos (Nat.le_refl _), if_pos f3, Nat.add_sub_cancel, Nat.sub_self, Nat.zero_div]
  · rw [if_neg (by omega), if_neg (by omega), Nat.add_sub_cancel, show n - f = (n - 1 - f) + 1 by omega, succ_div']
    have : (p ∣ n - 1 - f + 1) ↔ n % p = r := by
      rw [show n - 1 - f + 1 = n - f by omega]
      constructor
      · intro h
        obtain ⟨k, hk⟩ := h
        rw [show n = f + p * k by omega, Nat.add_mul_mod_self_left, f3]
      · intro e
        exact mod_same (f3.trans e.symm) (Nat.le_of_lt z)
    by_cases q : n % p = r
    · rw [if_pos (this.mpr q), if_pos q]
    · rw [if_neg (fun h => q (this.mp h)), if_neg q]
theorem crN_low {s n p r : Nat} (hr : r < p) (hn : n ≤ s) : crN s n p r = 0 := if_pos (Nat.le_trans hn (frN_is hr).1)
theorem sum_cr_succ {s n p : Nat} (hn : s ≤ n) : ∀ {rs : List Nat}, rs.Nodup → (∀ r ∈ rs, r < p) → (rs.map fun r => crN s (n + 1) p r).sum = (rs.map fun r => crN s n p r).sum + if n % p ∈ rs then 1 else 0
  | [], _, _ => rfl
  | r :: rs, nd, h => by
    have nd := List.nodup_cons.mp nd
    have ih := sum_cr_succ hn nd.2 fun z hz => h z (List.mem_cons_of_mem _ hz)
    rw [List.map_cons, List.map_cons, List.sum_cons, List.sum_cons, ih, crN_succ (h r List.mem_cons_self) hn]
    by_cases e : n % p = r
    · rw [if_pos e, if_pos (show n % p ∈ r :: rs by rw [e]; exact List.mem_cons_self), if_neg (show n % p ∉ rs by rw [e]; exact nd.1)]
      omega
    · rw [if_neg e]
      by_cases z : n % p ∈ rs
      · rw [if_pos z, if_pos (List.mem_cons_of_mem _ z)]; omega
      · rw [if_neg z, if_neg fun q => by
          rcases List.mem_cons.mp q with q | q
          · exact e q
          · exact z q]; omega
theorem filt_succ {n : Nat} : ∀ {xs : List Nat}, xs.Nodup → (xs.filter fun k => decide (k < n + 1)).length = (xs.filter fun k => decide (k < n)).length + if n ∈ xs then 1 else 0
  | [], _ => rfl
  | x :: xs, nd => by
    have nd := List.nodup_cons.mp nd
    have ih := filt_succ (n := n) nd.2
    rcases Nat.lt_trichotomy x n with z | z | z
    · rw [List.filter_cons_of_pos (by simp; omega), List.filter_cons_of_pos (by simp; omega), List.length_cons, List.length_cons, ih]
      by_cases e : n ∈ xs
      · rw [if_pos e, if_pos (List.mem_cons_of_mem _ e)]; try omega
      · rw [if_neg e, if_neg fun q => by
          rcases List.mem_cons.mp q with q | q
          · omega
          · exact e q]; try omega
    · subst z
      rw [List.filter_cons_of_pos (by simp), List.filter_cons_of_neg (by simp), List.length_cons, ih, if_neg nd.1, if_pos List.mem_cons_self]
    · rw [List.filter_cons_of_neg (by simp; omega), List.filter_cons_of_neg (by simp; omega), ih]
      by_cases e : n ∈ xs
      · rw [if_pos e, if_pos (List.mem_cons_of_mem _ e)]
      · rw [if_neg e, if_neg fun q => by
          rcases List.mem_cons.mp q with q | q
          · omega
          · exact e q]
def Tel.many (c : Tel) (n : Nat) : Nat := (c.es.filter fun k => decide (k < n)).length + (c.rs.map fun r => crN c.s n c.p r).sum
theorem sum_zero {xs : List Nat} (h : ∀ x ∈ xs, x = 0) : xs.sum = 0 := by
  induction xs with
  | nil => rfl
  | cons a l ih => rw [List.sum_cons, h a List.mem_cons_self, ih fun x hx => h x (List.mem_cons_of_mem _ hx)]
theorem Tel.many_low {c : Tel} (h : c.Ok) {n : Nat} (hn : n ≤ c.s) : c.many n = (c.es.filter fun k => decide (k < n)).length := by
  unfold Tel.many
  rw [sum_zero, Nat.add_zero]
  intro x hx
  obtain ⟨r, hr, rfl⟩ := List.mem_map.mp hx
  exact crN_low (h.rb r hr) hn
theorem nodup_pw {xs : List Nat} (h : xs.Pairwise (· < ·)) : xs.Nodup := h.imp fun h => Nat.ne_of_lt h
theorem Tel.cnt_is {c : Tel} (h : c.Ok) : ∀ n, c.cnt (n + 1) = c.many (n + 1)
  | 0 => by
    rw [c.cnt_one, Tel.many_low h h.s1, List.filter_eq_nil_iff.mpr]
    · rfl
    · intro a ha
      have := (h.eb a ha).1
      simp; omega
  | n + 1 => by
    rw [c.cnt_succ (Nat.le_add_left 1 n), Tel.cnt_is h n]
    by_cases e : n + 1 < c.s
    · rw [Tel.many_low h (show n + 1 ≤ c.s by omega), Tel.many_low h (show n + 1 + 1 ≤ c.s by omega), filt_succ (n := n + 1) (nodup_pw h.ea)]
      unfold Tel.has
      rw [if_pos e, ifd]
    · unfold Tel.many
      rw [sum_cr_succ (show c.s ≤ n + 1 by omega) (nodup_pw h.ra) h.rb, filt_succ (n := n + 1) (nodup_pw h.ea), if_neg (show n + 1 ∉ c.es from fun q => by have := (h.eb _ q).2; omega)]
      unfold Tel.has
      rw [if_neg e, ifd]
      omega
theorem Tel.cnt_neg {c : Tel} (h : c.Ok) : ∀ n, c.cnt (n + 1) + c.neg.cnt (n + 1) = n
  | 0 => rfl
  | n + 1 => by
    rw [c.cnt_succ (Nat.le_add_left 1 n), c.neg.cnt_succ (Nat.le_add_left 1 n), Tel.neg_has h (Nat.le_add_left 1 n)]
    have := Tel.cnt_neg h n
    cases c.has (n + 1)
    · rw [if_neg (by decide), if_pos (by decide)]; omega
    · rw [if_pos (by decide), if_neg (by decide)]; omega
theorem cnt_ext {c d : Tel} (h : ∀ n, 1 ≤ n → c.has n = d.has n) : ∀ n, c.cnt (n + 1) = d.cnt (n + 1)
  | 0 => rfl
  | n + 1 => by rw [c.cnt_succ (Nat.le_add_left 1 n), d.cnt_succ (Nat.le_add_left 1 n), cnt_ext h n, h _ (Nat.le_add_left 1 n)]
theorem Tel.cnt_same {c : Tel} {n : Nat} (hn : 1 ≤ n) : ∀ k, (∀ j, n ≤ j → j < n + k → c.has j = false) → c.cnt (n + k) = c.cnt n
  | 0, _ => rfl
  | k + 1, h => by
    rw [← Nat.add_assoc, c.cnt_succ (by omega), h (n + k) (by omega) (by omega), if_neg (by decide), Tel.cnt_same hn k fun j a b => h j a (by omega), Nat.add_zero]
theorem asc_at {m : Nat} : ∀ {xs : List Nat}, xs.Pairwise (· < ·) → m ∈ xs → xs[(xs.filter fun k => decide (k < m)).length]? = some m
  | [], _, h => by cases h
  | x :: xs, hp, h => by
    rw [List.pairwise_cons] at hp
    rcases Nat.lt_trichotomy x m with z | z | z
    · rw [List.filter_cons_of_pos (by simp; omega), List.length_cons, List.getElem?_cons_succ]
      refine asc_at hp.2 ?_
      rcases List.mem_cons.mp h with q | q
      · omega
      · exact q
    · subst z
      rw [List.filter_cons_of_neg (by simp), List.filter_eq_nil_iff.mpr fun a ha => by have := hp.1 a ha; simp; omega]
      rfl
    · rcases List.mem_cons.mp h with q | q
      · omega
      · have := hp.1 m q; omega
def Tel.rnd (c : Tel) : List Nat := (List.range' c.s c.p).filter fun n => decide (n % c.p ∈ c.rs)
def Tel.cn (c : Tel) (j : Nat) : Nat := ((List.range' c.s j).filter fun n => decide (n % c.p ∈ c.rs)).length
theorem Tel.cn_succ (c : Tel) (j : Nat) : c.cn (j + 1) = c.cn j + if (c.s + j) % c.p ∈ c.rs then 1 else 0 := by
  unfold Tel.cn
  rw [List.range'_1_concat, List.filter_append, List.length_append]
  congr 1
  by_cases e : (c.s + j) % c.p ∈ c.rs
  · rw [if_pos e, List.filter_cons_of_pos (by simpa using e)]; rfl
  · rw [if_neg e, List.filter_cons_of_neg (by simpa using e)]; rfl
theorem Tel.cn_per (c : Tel) : ∀ j, c.cn (j + c.p) = c.cn j + c.cn c.p
  | 0 => by rw [Nat.zero_add, show c.cn 0 = 0 from rfl, Nat.zero_add]
  | j + 1 => by
    rw [show j + 1 + c.p = (j + c.p) + 1 by omega, c.cn_succ, c.cn_succ, Tel.cn_per c j, ← Nat.add_assoc c.s j c.p, Nat.add_mod_right]
    omega
theorem Tel.cn_many (c : Tel) (j : Nat) : ∀ q, c.cn (j + q * c.p) = c.cn j + q * c.cn c.p
  | 0 => by rw [Nat.zero_mul, Nat.zero_mul]; rfl
  | q + 1 => by rw [Nat.succ_mul, Nat.succ_mul, ← Nat.add_assoc, c.cn_per, Tel.cn_many c j q, Nat.add_assoc]
theorem Tel.cn_mono (c : Tel) {i : Nat} : ∀ d, c.cn i ≤ c.cn (i + d)
  | 0 => Nat.le_refl _
  | d + 1 => by rw [← Nat.add_assoc, c.cn_succ]; exact Nat.le_trans (Tel.cn_mono c d) (Nat.le_add_right _ _)
theorem Tel.cnt_far {c : Tel} (h : c.Ok) : ∀ j, c.cnt (c.s + j) = c.es.length + c.cn j
  | 0 => by
    have s1 := h.s1
    obtain ⟨m, hm⟩ : ∃ m, c.s = m + 1 := ⟨c.s - 1, by omega⟩
    rw [Nat.add_zero, show c.cn 0 = 0 from rfl, Nat.add_zero]
    have := Tel.cnt_is h m
    rw [← hm] at this
    rw [this, Tel.many_low h (Nat.le_refl _), List.filter_eq_self.mpr fun a ha => decide_eq_true (h.eb a ha).2]
  | j + 1 => by
    have s1 := h.s1
    rw [← Nat.add_assoc, c.cnt_succ (show 1 ≤ c.s + j by omega), Tel.cnt_far h j, c.cn_succ]
    unfold Tel.has
    rw [if_neg (show ¬ c.s + j < c.s by omega), ifd, Nat.add_assoc]
theorem Tel.rnd_len (c : Tel) : c.rnd.length = c.cn c.p := rfl
theorem Tel.nth_near {c : Tel} (h : c.Ok) {m : Nat} (m1 : 1 ≤ m) (hm : c.has m = true) (hs : m < c.s) : c.es[c.cnt m]? = some m := by
  obtain ⟨k, rfl⟩ : ∃ k, m = k + 1 := ⟨m - 1, by omega⟩
  rw [Tel.cnt_is h, Tel.many_low h (Nat.le_of_lt hs)]
  refine asc_at h.ea ?_
  unfold Tel.has at hm
  rw [if_pos hs] at hm
  exact of_decide_eq_true hm
theorem Tel.nth_far {c : Tel} (h : c.Ok) {m : Nat} (hm : c.has m = true) (hs : c.s ≤ m) : ∃ v q, c.es.length ≤ c.cnt m ∧ 0 < c.rnd.length ∧ c.rnd[(c.cnt m - c.es.length) % c.rnd.length]? = some v ∧ (c.cnt m - c.es.length) / c.rnd.length = q ∧ v + q * c.p = m := by
  have p1 := h.p1
  obtain ⟨d, rfl⟩ : ∃ d, m = c.s + d := ⟨m - c.s, by omega⟩
  rw [Tel.cnt_far h, Nat.add_sub_cancel_left]
  have a1 := Nat.div_add_mod d c.p
  have a2 := Nat.mod_lt d (show 0 < c.p from p1)
  have hd : c.has (c.s + d % c.p) = true := by
    rw [← hm]
    refine Tel.has_mod (P := c.p) (Nat.dvd_refl _) (by omega) (by omega) ?_
    rw [Nat.add_mod_mod]
  generalize hj : d % c.p = j at *
  generalize hq : d / c.p = q at *
  have ed : d = j + q * c.p := by rw [Nat.mul_comm]; omega
  have hr : (c.s + j) % c.p ∈ c.rs := by
    unfold Tel.has at hd
    rw [if_neg (by omega)] at hd
    exact of_decide_eq_true hd
  have lt : c.cn j < c.rnd.length := by
    have e := c.cn_succ j
    rw [if_pos hr] at e
    have m := c.cn_mono (i := j + 1) (c.p - (j + 1))
    rw [show j + 1 + (c.p - (j + 1)) = c.p by omega] at m
    rw [c.rnd_len]; omega
  have cm : c.cn d = q * c.rnd.length + c.cn j := by rw [ed, c.cn_many, c.rnd_len]; omega
  have pos : 0 < c.rnd.length := by omega
  refine ⟨c.s + j, q, Nat.le_add_right _ _, pos, ?_, ?_, by omega⟩
  · rw [cm, Nat.mul_comm, Nat.mul_add_mod, Nat.mod_eq_of_lt lt]
    have pw : c.rnd.Pairwise (· < ·) := (rng_pw _ _).filter _
    have mem : c.s + j ∈ c.rnd := List.mem_filter.mpr ⟨List.mem_range'_1.mpr ⟨by omega, by omega⟩, decide_eq_true hr⟩
    have fe : (c.rnd.filter fun k => decide (k < c.s + j)) = (List.range' c.s j).filter fun n => decide (n % c.p ∈ c.rs) := by
      refine pwN_ext (pw.filter _) ((rng_pw _ _).filter _) fun n => ?_
      unfold Tel.rnd
      rw [List.mem_filter, List.mem_filter, List.mem_filter, List.mem_range'_1, List.mem_range'_1, decide_eq_true_iff, decide_eq_true_iff]
      constructor
      · rintro ⟨⟨⟨a, b⟩, e⟩, z⟩; exact ⟨⟨a, z⟩, e⟩
      · rintro ⟨⟨a, b⟩, e⟩; exact ⟨⟨⟨a, by omega⟩, e⟩, b⟩
    have := asc_at pw mem
    rw [fe] at this
    exact this
  · rw [cm, Nat.mul_comm, Nat.mul_add_div pos, Nat.div_eq_of_lt lt, Nat.add_zero]
def F_common_multiple : Env2 → M Out :=
  (seqM (parM 2 3 [0, 1] (aC (rdEnv 0) (aC (rdEnv 1) aN)))
  (seqM (whileM [2] (t2 gtD (rdEnv 2) (cst (.int 0)))
  (parM 2 3 [2, 3] (aC (e2 modD (rdEnv 3) (rdEnv 2)) (aC (rdEnv 2) aN))) 1000000)
  (retM [0, 1, 3] (e2 divD (e2 mulD (rdEnv 0) (rdEnv 1)) (rdEnv 3)))))
def R_common_multiple : List D → M D := runD 4 F_common_multiple
def F_joined : Env2 → M Out :=
  (seqM (unpM (bTup 2 (bCons (bName 6) (bCons (bName 7) bNil))) [0, 1] (eTup (aC (eCall maxF (aC (e2 ixF (rdEnv 0) (cst (.int 1))) (aC (e2 ixF (rdEnv 1) (cst (.int 1))) aN))) (aC (eCall R_common_multiple (aC (e2 ixF (rdEnv 0) (cst (.int 2))) (aC (e2 ixF (rdEnv 1) (cst (.int 2))) aN))) aN))))
  (seqM (setNM 3 [6, 7, 8] (nLc [8] (iRg2 (aC (cst (.int 1)) (aC (e2 addD (rdEnv 6) (rdEnv 7)) aN))) (bName 8) cT (rdEnv 8)))
  (seqM (setNM 4 [0, 1, 2, 3, 9] (nLc [9] (iAny (rdEnv 3)) (bName 9) (t2 (eqD false) (e2 ixF (rdEnv 2) (e2 addD (e2 mulD (cst (.int 2)) (eCall intF (aC (eCall R_is_size (aC (rdEnv 0) (aC (rdEnv 9) aN))) aN))) (eCall intF (aC (eCall R_is_size (aC (rdEnv 1) (aC (rdEnv 9) aN))) aN)))) (cst (.str [49]))) (rdEnv 9)))
  (seqM (setNM 5 [4, 6, 7, 8] (nSortSc [8] (iAny (rdEnv 4)) (bName 8) (t2 geD (rdEnv 8) (rdEnv 6)) (e2 modD (rdEnv 8) (rdEnv 7))))
  (retM [4, 5, 6, 7, 8] (eCall R_plain_telling (aC (eTup (aC (eN (nLc [8] (iAny (rdEnv 4)) (bName 8) (t2 ltD (rdEnv 8) (rdEnv 6)) (rdEnv 8))) (aC (rdEnv 6) (aC (rdEnv 7) (aC (rdEnv 5) aN))))) aN)))))))
def R_joined : List D → M D := runD 10 F_joined
def F_Calendar___and__ : Env2 → M Out :=
  (seqM (unpM (bTup 4 (bCons (bName 2) (bCons (bName 3) (bCons (bName 4) (bCons (bName 5) bNil))))) [0, 1] (eCall R_joined (aC (e1 (slotD 2 0) (rdEnv 0)) (aC (e1 (slotD 2 0) (rdEnv 1)) (aC (cst (.str [48, 48, 48, 49])) aN)))))
  (retM [2, 3, 4, 5] (eMake 2 calI (aC (rdEnv 3) (aC (rdEnv 2) (aC (rdEnv 4) (aC (rdEnv 5) aN)))))))
def R_Calendar___and__ : List D → M D := runD 6 F_Calendar___and__
def F_Calendar___or__ : Env2 → M Out :=
  (seqM (unpM (bTup 4 (bCons (bName 2) (bCons (bName 3) (bCons (bName 4) (bCons (bName 5) bNil))))) [0, 1] (eCall R_joined (aC (e1 (slotD 2 0) (rdEnv 0)) (aC (e1 (slotD 2 0) (rdEnv 1)) (aC (cst (.str [48, 49, 49, 49])) aN)))))
  (retM [2, 3, 4, 5] (eMake 2 calI (aC (rdEnv 3) (aC (rdEnv 2) (aC (rdEnv 4) (aC (rdEnv 5) aN)))))))
def R_Calendar___or__ : List D → M D := runD 6 F_Calendar___or__
def F_Calendar___xor__ : Env2 → M Out :=
  (seqM (unpM (bTup 4 (bCons (bName 2) (bCons (bName 3) (bCons (bName 4) (bCons (bName 5) bNil))))) [0, 1] (eCall R_joined (aC (e1 (slotD 2 0) (rdEnv 0)) (aC (e1 (slotD 2 0) (rdEnv 1)) (aC (cst (.str [48, 49, 49, 48])) aN)))))
  (retM [2, 3, 4, 5] (eMake 2 calI (aC (rdEnv 3) (aC (rdEnv 2) (aC (rdEnv 4) (aC (rdEnv 5) aN)))))))
def R_Calendar___xor__ : List D → M D := runD 6 F_Calendar___xor__
def F_Calendar___invert__ : Env2 → M Out :=
  (seqM (unpM (bTup 4 (bCons (bName 2) (bCons (bName 3) (bCons (bName 4) (bCons (bName 5) bNil))))) [0] (e1 (slotD 2 0) (rdEnv 0)))
  (seqM (setNM 1 [4, 5, 6] (nLc [6] (iRg1 (aC (rdEnv 4) aN)) (bName 6) (t2 (inF true) (rdEnv 6) (rdEnv 5)) (rdEnv 6)))
  (retM [1, 2, 3, 4, 7] (eMake 2 calI (aC (rdEnv 3) (aC (eN (nLc [7] (iRg2 (aC (cst (.int 1)) (aC (rdEnv 3) aN))) (bName 7) (t2 (inF true) (rdEnv 7) (rdEnv 2)) (rdEnv 7))) (aC (rdEnv 4) (aC (rdEnv 1) aN))))))))
def R_Calendar___invert__ : List D → M D := runD 8 F_Calendar___invert__
def F_Calendar_within : Env2 → M Out :=
  (seqM (unpM (bTup 4 (bCons (bName 2) (bCons (bName 3) (bCons (bName 4) (bCons (bName 5) bNil))))) [0, 1] (eCall R_joined (aC (e1 (slotD 2 0) (rdEnv 0)) (aC (e1 (slotD 2 0) (rdEnv 1)) (aC (cst (.str [48, 48, 49, 48])) aN)))))
  (retM [2, 5] (eAnd (e2 (eqD false) (rdEnv 2) (eN (nLst aN))) (e2 (eqD false) (rdEnv 5) (eN (nLst aN))))))
def R_Calendar_within : List D → M D := runD 6 F_Calendar_within
local macro_rules | `(tactic| walk_at "ev11") => `(tactic| try simp -implicitDefEqProofs -dsimp (disch := walk_at "dis") only [cal_flat, flatZ, guard_cal, in_nat, in_natE, isi_lst2, isi_tup2, prop_early, prop_period, prop_rests, prop_start, ↓q_seq, ↓q_seqK_nx, ↓q_seqK_rt, ↓q_seqK_rn, ↓q_seqK_bk, ↓q_seqK_ct, ↓q_runD, ↓q_runN, q_runK_rt, q_runK_rn, q_runK_nx, q_runKN_rn, ↓q_set, ↓q_setN, ↓q_ret, ↓q_retN, ↓q_if, ↓q_unp, q_unpK, ↓q_par, q_parK, ↓q_aug, q_augK, q_addF_int, q_addF_str, q_guard, ↓q_for, ↓q_forR, ↓q_sNil, ↓q_e2, ↓q_t2, ↓q_e1, ↓q_cst, ↓q_aN, ↓q_aC, ↓q_call, ↓q_callN, ↓q_eN, ↓q_nLst, q_lstK, ↓q_eTup, q_tupK, ↓q_tVal, ↓q_tNot, ↓q_tAnd, ↓q_tOr, ↓q_eAnd, ↓q_eNot, ↓q_eIf, ↓q_iAny, ↓q_iRg1, ↓q_iRg2, ↓q_nLc, ↓q_cT, ↓q_oN, ↓q_oS, ↓q_eSl, ↓q_eChain, ↓q_eMake, ↓q_eMeth, ↓q_n1M, ↓q_iSeq, q_selK, q_self, ↓q_ext, q_extK, q_inE, q_notInE, q_is_non, q_is_str, q_is_int, q_is_tup, q_is_lst, q_isnt_non, q_isnt_str, q_isnt_int, q_isnt_tup, q_isnt_lst, q_list_l, q_list_t, q_max2, q_sum, q_ixF_s, q_ixF_l, q_ixF_t, q_ixF_b, q_inF_s, q_inF_l, q_inF_t, q_lenG_s, q_lenG_l, q_lenG_t, q_lenG_d, q_lenG_dt, q_seeT, q_toDv, q_toDl, q_toDk, q_toDt, q_toDs0, q_toDs1, q_toDsm, q_fls0, q_fls1, q_flv, q_fll, q_flk, q_flt, q_flsm, q_flatS, q_flatI, q_flatS2, q_mapv0, bnd_ret, bnd_assoc, bnd_assoc', bnd_r, cnd_t, cnd_f, fail_bnd, bind_bnd, str01, List.cons.injEq, and_true, decide_true, decide_false, cut_toN, cut_fromN, cut_from1N, cut_to1N, cut_to1, cut_to2, cut_to3, cut_from1, cut_toM1, cut_fromM1, DL.startD, List.map_cons, List.map_nil, List.length_cons, List.length_nil, Nat.reduceAdd, Nat.reduceSub, List.replicate, List.cons_append, List.nil_append, view_eq, viewAt_cons, viewAt_nil, List.contains_cons, List.contains_nil, Nat.reduceBEq, Bool.or_true, Bool.or_false, Bool.true_or, Bool.false_or, if_true, Bool.false_eq_true, if_false, Option.map_some, Option.map_none, see_val, see_own, rd_0, rd_1, rd_2, rd_3, rd_4, rd_5, rd_6, rd_7, rd_8, rd_9, rd_10, rd_11, rd_12, rd_13, rd_14, Int.reduceToNat, flat_int, flat_str, flat_bl, flat_non, flat_bag, flat_lst, flat_tup, flat_obj, List.all_cons, List.all_nil, Bool.and_true, Bool.true_and, Bool.and_false, Bool.false_and, keepIf_t, keepIf_f, frz_eq, frzAt_cons, frzAt_nil, List.set_cons_succ, List.set_cons_zero, subD_int, addD_int, negD_int, asI_int, asB_bl, truD_bl, lenF_lst, lenF_tup, intF_int, intF_bl, absF_int, ltD_int, leD_int, gtD_int, geD_int, eqD_int, eqD_str, neD_int, neD_str, inD_str, notInD_str, slD_lst, slD_scr, revD_lst, itemsD_lst, itemsD_tup, itemsD_str, Bool.not_true, Bool.not_false, ixD_l, ixD_t, ofSome, atI_0, atI_1, atI_2, atI_3, atI_4, atI_app, slotD_obj, propD_obj, propN_obj, isC_obj, get0, get1, get2, get3, getS, bName_eq, bTup_eq, bCons_eq, bNil_eq, setAll2_cons, setAll2_nil, setAllD_cons, setAllD_nil, wipeD_cons, wipeD_nil, isi_str_str, isi_int_int, isi_bool_int, List.getElem?_cons_zero, List.getElem?_cons_succ, q_minG2, q_minGs, q_iOne, q_inO, q_setAt, q_flat_dct, q_flat_dcT, q_eqC, q_isiO, q_isiO_i, q_isiO_s, q_isiO_n, q_isiO_l, q_isiO_t, q_nSortSc, q_isB, q_isntB, q_n2, q_catL, q_cndN, q_szL, q_c0, q_c1, q_c2, q_c3, q_c4, q_c5, q_c6, q_c7, q_c8, q_c9, q_c10, q_c11, q_c12, q_c13, q_c14, q_c15, q_c16, q_guardT, q_eqBl, q_neBl, q_toDu, q_flu, q_bLst, q_neC, q_cut2, q_cut3, eq_self, cnd_dt, cnd_df, Int.toNat_natCast, lenF_str, modD_int, divD_int, addD_str, addD_lst, slD_str, revD_str, ixD_str, ixD_str1, ixD_strmod, rng1_int, rng2_int, mulD_intl, mulD_intr, intF_dig])
theorem euclid2 {s0 s1 : Option DL.Slot} : ∀ (n fuel a b : Nat), a ≤ n → n < fuel → whileM [2] (t2 gtD (rdEnv 2) (cst (.int 0))) (parM 2 3 [2, 3] (aC (e2 modD (rdEnv 3) (rdEnv 2)) (aC (rdEnv 2) aN))) fuel [s0, s1, some (.val (.int (a : Int))), some (.val (.int (b : Int)))] = M.ret (.nx [s0, s1, some (.val (.int 0)), some (.val (.int ((Nat.gcd a b : Nat) : Int)))])
  | n, fuel + 1, a, b, ha, hf => by
    rw [q_whileM]
    by_cases e : a = 0
    · subst e
      walk_at "ev11"
      rw [Nat.gcd_zero_left]
    · have e1 : 1 ≤ a := by omega
      walk_at "ev11"
      rw [natmod, euclid2 (a - 1) fuel (b % a) a (by have := Nat.mod_lt b e1; omega) (by omega), ← Nat.gcd_rec]
theorem common_is {a b : Nat} (ha : 1 ≤ a) (hb : 1 ≤ b) (za : a ≤ 100000) (zb : b ≤ 100000) : R_common_multiple [.int (a : Int), .int (b : Int)] = M.ret (.int ((Nat.lcm a b : Nat) : Int)) := by
  simp only [R_common_multiple, F_common_multiple]
  have eu := euclid2 (s0 := some (.val (.int (a : Int)))) (s1 := some (.val (.int (b : Int)))) 100000 1000000 a b za (by omega)
  have g1 := Nat.gcd_pos_of_pos_left b ha
  generalize 1000000 = F0 at eu ⊢
  walk_at "ev11"
  rw [eu]
  walk_at "ev11"
  rw [show divD (D.int ((a : Int) * (b : Int))) (D.int ((Nat.gcd a b : Nat) : Int)) = M.ret (.int ((Nat.lcm a b : Nat) : Int)) by
    rw [← Int.natCast_mul, divD_int (by omega) (by have := Nat.gcd_le_left b ha; omega)]
    show M.ret (D.int (((a * b : Nat) : Int) / ((Nat.gcd a b : Nat) : Int))) = _
    rw [← Int.natCast_ediv]
    rfl]
  walk_at "ev11"
def tabT (f : Bool → Bool → Bool) : List Nat := [if f false false then 49 else 48, if f false true then 49 else 48, if f true false then 49 else 48, if f true true then 49 else 48]
theorem maxZ_nat (a b : Nat) : maxZ (a : Int) (b : Int) = ((max a b : Nat) : Int) := by
  unfold maxZ
  split <;> omega
theorem tab_at (f : Bool → Bool → Bool) (x y : Bool) : ixD (.str (tabT f)) (.int ((2 * if x = true then 1 else 0) + if y = true then 1 else 0)) = M.ret (.str [if f x y then 49 else 48]) := by
  cases x <;> cases y <;> rfl
theorem joined_is (f : Bool → Bool → Bool) {c d : Tel} (hc : c.Ok) (hd : d.Ok) (cs : c.s ≤ 2000) (ds : d.s ≤ 2000) (cp : c.p ≤ 2000) (dp : d.p ≤ 2000) (lz : Nat.lcm c.p d.p ≤ 1900) : R_joined [telD c, telD d, .str (tabT f)] = M.ret (telD (Tel.join f c d).plain) := by
  have c1 := hc.s1
  have d1 := hd.s1
  have jo := Tel.join_ok (f := f) hc hd
  have l1 := lcm_pos hc.p1 hd.p1
  have el := Tel.es_len jo
  have rl := Tel.rs_len jo
  have se : (Tel.join f c d).s = max c.s d.s := rfl
  have pe : (Tel.join f c d).p = Nat.lcm c.p d.p := rfl
  have pt := plain_telling_is jo (by omega) (by omega) (by omega) (by omega)
  have ic := fun n => is_size_is c n hc.p1
  have id := fun n => is_size_is d n hd.p1
  simp only [R_joined, F_joined]
  generalize telD (Tel.join f c d).plain = RR at pt ⊢
  unfold telD at pt ic id ⊢
  rw [se, pe] at pt
  walk_at "ev11"
  rw [common_is hc.p1 hd.p1 (by omega) (by omega), maxZ_nat]
  have S1 : 1 ≤ max c.s d.s := by omega
  have S2 : max c.s d.s ≤ 2000 := by omega
  have hS : (Tel.join f c d).es = (joinS f c d).filter fun n => decide (n < max c.s d.s) := rfl
  have hR : ∀ r, r ∈ (Tel.join f c d).rs ↔ r < Nat.lcm c.p d.p ∧ ∃ n ∈ joinS f c d, max c.s d.s ≤ n ∧ n % Nat.lcm c.p d.p = r := fun r => by
    show r ∈ (List.range (Nat.lcm c.p d.p)).filter (fun r => (joinS f c d).any fun n => decide (max c.s d.s ≤ n) && decide (n % Nat.lcm c.p d.p = r)) ↔ _
    rw [List.mem_filter, List.mem_range, List.any_eq_true]
    constructor
    · rintro ⟨a, n, hn, q⟩
      rw [Bool.and_eq_true, decide_eq_true_iff, decide_eq_true_iff] at q
      exact ⟨a, n, hn, q⟩
    · rintro ⟨a, n, hn, q1, q2⟩
      exact ⟨a, n, hn, by rw [Bool.and_eq_true, decide_eq_true_iff, decide_eq_true_iff]; exact ⟨q1, q2⟩⟩
  have hJ : joinS f c d = (List.range' 1 (max c.s d.s + Nat.lcm c.p d.p - 1)).filter fun n => f (c.has n) (d.has n) := rfl
  have ra := jo.ra
  generalize (Tel.join f c d).es = es0 at *
  generalize (Tel.join f c d).rs = rs0 at *
  generalize joinS f c d = JS at *
  generalize max c.s d.s = S at *
  generalize Nat.lcm c.p d.p = P at *
  walk_at "ev11"
  rw [show (S : Int) + (P : Int) - 1 = ((S + P - 1 : Nat) : Int) by omega, rng1_nat (S + P - 1) (by omega)]
  rw [show natL (List.range' 1 (S + P - 1)) = (List.range' 1 (S + P - 1)).map fun (n : Nat) => D.int (n : Int) from rfl, compM_mapI (l := fun (n : Nat) => [(8, D.int (n : Int))]) (y := fun (n : Nat) => D.int (n : Int)) (xs := List.range' 1 (S + P - 1)) fun n hn => ⟨rfl, rfl, by walk_at "ev11"⟩]
  rw [show (List.range' 1 (S + P - 1)).map (fun (n : Nat) => D.int (n : Int)) = natL (List.range' 1 (S + P - 1)) from rfl]
  have wf := natL_flat (List.range' 1 (S + P - 1))
  have wl : (natL (List.range' 1 (S + P - 1))).length ≤ 3900 := by rw [natL_len, List.length_range']; omega
  walk_at "ev11"
  rw [wf]
  walk_at "ev11"
  rw [show natL (List.range' 1 (S + P - 1)) = (List.range' 1 (S + P - 1)).map fun (n : Nat) => D.int (n : Int) from rfl, compM_filterI (l := fun (n : Nat) => [(9, D.int (n : Int))]) (k := fun (n : Nat) => f (c.has n) (d.has n)) (y := fun (n : Nat) => D.int (n : Int)) (xs := List.range' 1 (S + P - 1)) fun n hn => ⟨rfl, by
    walk_at "ev11"
    rw [ic]
    walk_at "ev11"
    rw [id]
    walk_at "ev11"
    rw [tab_at]
    walk_at "ev11"
    cases f (c.has n) (d.has n) <;> rfl, by walk_at "ev11"⟩]
  rw [show ((List.range' 1 (S + P - 1)).filter fun n => f (c.has n) (d.has n)).map (fun (n : Nat) => D.int (n : Int)) = natL JS by rw [hJ]; rfl]
  have jf := natL_flat JS
  have jl : (natL JS).length ≤ 3900 := by
    rw [natL_len, hJ]
    refine Nat.le_trans (List.length_filter_le _ _) ?_
    rw [List.length_range']; omega
  walk_at "ev11"
  rw [jf]
  walk_at "ev11"
  rw [show natL JS = JS.map fun (n : Nat) => D.int (n : Int) from rfl, compM_filterI (l := fun (n : Nat) => [(8, D.int (n : Int))]) (k := fun (n : Nat) => decide (S ≤ n)) (y := fun (n : Nat) => D.int ((n % P : Nat) : Int)) (xs := JS) fun n hn => ⟨rfl, by
    walk_at "ev11"
    rw [show decide ((S : Int) ≤ (n : Int)) = decide (S ≤ n) from decide_eq_decide.mpr (by omega)], by
    walk_at "ev11"
    rw [natmod]⟩]
  rw [show (JS.filter fun n => decide (S ≤ n)).map (fun (n : Nat) => D.int ((n % P : Nat) : Int)) = natL ((JS.filter fun n => decide (S ≤ n)).map fun n => n % P) by unfold natL; rw [List.map_map]; rfl]
  have jl2 : JS.length ≤ 3900 := by rw [natL_len] at jl; exact jl
  have fz := List.length_filter_le (fun n => decide (S ≤ n)) JS
  walk_at "ev11"
  rw [sortSc_nat (ys := rs0) ra (fun r => by
    rw [hR, List.mem_map]
    constructor
    · rintro ⟨_, n, hn, a, b⟩
      exact ⟨n, List.mem_filter.mpr ⟨hn, decide_eq_true a⟩, b⟩
    · rintro ⟨n, hn, b⟩
      obtain ⟨a, q⟩ := List.mem_filter.mp hn
      exact ⟨by rw [← b]; exact Nat.mod_lt _ l1, n, a, of_decide_eq_true q, b⟩) (by rw [List.length_map]; omega)]
  have rf := natL_flat rs0
  have rn := natL_len rs0
  have en := natL_len es0
  walk_at "ev11"
  rw [rf]
  walk_at "ev11"
  rw [compM_filterI (l := fun (n : Nat) => [(8, D.int (n : Int))]) (k := fun (n : Nat) => decide (n < S)) (y := fun (n : Nat) => D.int (n : Int)) (xs := JS) fun n hn => ⟨rfl, by
    walk_at "ev11"
    rw [show decide ((n : Int) < (S : Int)) = decide (n < S) from decide_eq_decide.mpr (by omega)], by walk_at "ev11"⟩]
  rw [← hS, show es0.map (fun (n : Nat) => D.int (n : Int)) = natL es0 from rfl]
  walk_at "ev11"
  rw [pt]
  walk_at "ev11"
theorem invert_is {c : Tel} (h : c.Ok) (cs : c.s ≤ 2000) (cp : c.p ≤ 2000) : R_Calendar___invert__ [calD c] = M.ret (calD c.neg.plain) := by
  have s1 := h.s1
  have p1 := h.p1
  have ci := calI_is (Tel.neg_ok h) (Nat.le_trans (Tel.es_len (Tel.neg_ok h)) (by show c.s ≤ 4000; omega)) (by show c.s ≤ 5000; omega) (by show c.p ≤ 4000; omega) (Nat.le_trans (Tel.rs_len (Tel.neg_ok h)) (by show c.p ≤ 4000; omega))
  have nf := List.length_filter_le (fun r => decide (r ∉ c.rs)) (List.range c.p)
  rw [List.length_range] at nf
  have mf := List.length_filter_le (fun n => decide (n ∉ c.es)) (List.range' 1 (c.s - 1))
  rw [List.length_range'] at mf
  simp only [R_Calendar___invert__, F_Calendar___invert__]
  rw [show calD c.neg.plain = .obj 2 [telD c.neg.plain] from rfl]
  generalize telD c.neg.plain = RR at ci ⊢
  unfold calD telD
  walk_at "ev11"
  rw [show ((List.range c.p).map fun (k : Nat) => D.int (0 + (k : Int))) = (List.range c.p).map fun (n : Nat) => D.int (n : Int) from List.map_congr_left fun k _ => by rw [Int.zero_add]]
  rw [compM_filterI (l := fun (n : Nat) => [(6, D.int (n : Int))]) (k := fun (n : Nat) => decide (n ∉ c.rs)) (y := fun (n : Nat) => D.int (n : Int)) (xs := List.range c.p) fun n hn => ⟨rfl, by walk_at "ev11", by walk_at "ev11"⟩]
  rw [show ((List.range c.p).filter fun n => decide (n ∉ c.rs)).map (fun (n : Nat) => D.int (n : Int)) = natL c.neg.rs from rfl]
  have n1 := natL_flat c.neg.rs
  have n2 : (natL c.neg.rs).length ≤ 2000 := by rw [natL_len]; show ((List.range c.p).filter fun n => decide (n ∉ c.rs)).length ≤ 2000; omega
  walk_at "ev11"
  rw [n1]
  walk_at "ev11"
  rw [show (c.s : Int) - 1 = ((c.s - 1 : Nat) : Int) by omega, rng1_nat (c.s - 1) (by omega)]
  rw [show natL (List.range' 1 (c.s - 1)) = (List.range' 1 (c.s - 1)).map fun (n : Nat) => D.int (n : Int) from rfl, compM_filterI (l := fun (n : Nat) => [(7, D.int (n : Int))]) (k := fun (n : Nat) => decide (n ∉ c.es)) (y := fun (n : Nat) => D.int (n : Int)) (xs := List.range' 1 (c.s - 1)) fun n hn => ⟨rfl, by walk_at "ev11", by walk_at "ev11"⟩]
  rw [show ((List.range' 1 (c.s - 1)).filter fun n => decide (n ∉ c.es)).map (fun (n : Nat) => D.int (n : Int)) = natL c.neg.es from rfl]
  have m2 : (natL c.neg.es).length ≤ 2000 := by rw [natL_len]; show ((List.range' 1 (c.s - 1)).filter fun n => decide (n ∉ c.es)).length ≤ 2000; omega
  walk_at "ev11"
  have ci : calI [.int (c.s : Int), .lst (natL c.neg.es), .int (c.p : Int), .lst (natL c.neg.rs)] = M.ret [RR] := ci
  rw [ci]
  walk_at "ev11"
theorem calI_pln {c : Tel} (h : Pln c) (cs : c.s ≤ 2000) (cp : c.p ≤ 2000) : calI [.int (c.s : Int), .lst (natL c.es), .int (c.p : Int), .lst (natL c.rs)] = M.ret [telD c] := by
  have := calI_is h.ok (Nat.le_trans (Tel.es_len h.ok) (by omega)) (by omega) (by omega) (Nat.le_trans (Tel.rs_len h.ok) (by omega))
  rw [h.eq] at this
  exact this
theorem join_size {f : Bool → Bool → Bool} {c d : Tel} (hc : c.Ok) (hd : d.Ok) : (Tel.join f c d).plain.s ≤ max c.s d.s ∧ (Tel.join f c d).plain.p ∣ Nat.lcm c.p d.p ∧ (Tel.join f c d).plain.p ≤ Nat.lcm c.p d.p := by
  have jo := Tel.join_ok (f := f) hc hd
  exact ⟨Tel.first_le jo, (Tel.per_le jo).1, (Tel.per_le jo).2⟩
theorem and_is {c d : Tel} (hc : c.Ok) (hd : d.Ok) (cs : c.s ≤ 2000) (ds : d.s ≤ 2000) (cp : c.p ≤ 2000) (dp : d.p ≤ 2000) (lz : Nat.lcm c.p d.p ≤ 1900) : R_Calendar___and__ [calD c, calD d] = M.ret (calD (Tel.join and c d).plain) := by
  have jo := Tel.join_ok (f := and) hc hd
  have ji := joined_is and hc hd cs ds cp dp lz
  obtain ⟨b1, b2, b3⟩ := join_size (f := and) hc hd
  have ci := calI_pln (pln_of jo) (by omega) (by omega)
  simp only [R_Calendar___and__, F_Calendar___and__]
  unfold calD
  generalize hJ : (Tel.join and c d).plain = J at ji ci ⊢
  have ji : R_joined [telD c, telD d, .str [48, 48, 48, 49]] = M.ret (telD J) := ji
  walk_at "ev11"
  rw [ji]
  unfold telD at ci ⊢
  walk_at "ev11"
  rw [ci]
  walk_at "ev11"
theorem or_is {c d : Tel} (hc : c.Ok) (hd : d.Ok) (cs : c.s ≤ 2000) (ds : d.s ≤ 2000) (cp : c.p ≤ 2000) (dp : d.p ≤ 2000) (lz : Nat.lcm c.p d.p ≤ 1900) : R_Calendar___or__ [calD c, calD d] = M.ret (calD (Tel.join or c d).plain) := by
  have jo := Tel.join_ok (f := or) hc hd
  have ji := joined_is or hc hd cs ds cp dp lz
  obtain ⟨b1, b2, b3⟩ := join_size (f := or) hc hd
  have ci := calI_pln (pln_of jo) (by omega) (by omega)
  simp only [R_Calendar___or__, F_Calendar___or__]
  unfold calD
  generalize hJ : (Tel.join or c d).plain = J at ji ci ⊢
  have ji : R_joined [telD c, telD d, .str [48, 49, 49, 49]] = M.ret (telD J) := ji
  walk_at "ev11"
  rw [ji]
  unfold telD at ci ⊢
  walk_at "ev11"
  rw [ci]
  walk_at "ev11"
theorem xor_is {c d : Tel} (hc : c.Ok) (hd : d.Ok) (cs : c.s ≤ 2000) (ds : d.s ≤ 2000) (cp : c.p ≤ 2000) (dp : d.p ≤ 2000) (lz : Nat.lcm c.p d.p ≤ 1900) : R_Calendar___xor__ [calD c, calD d] = M.ret (calD (Tel.join xor c d).plain) := by
  have jo := Tel.join_ok (f := xor) hc hd
  have ji := joined_is xor hc hd cs ds cp dp lz
  obtain ⟨b1, b2, b3⟩ := join_size (f := xor) hc hd
  have ci := calI_pln (pln_of jo) (by omega) (by omega)
  simp only [R_Calendar___xor__, F_Calendar___xor__]
  unfold calD
  generalize hJ : (Tel.join xor c d).plain = J at ji ci ⊢
  have ji : R_joined [telD c, telD d, .str [48, 49, 49, 48]] = M.ret (telD J) := ji
  walk_at "ev11"
  rw [ji]
  unfold telD at ci ⊢
  walk_at "ev11"
  rw [ci]
  walk_at "ev11"
def lessB (x y : Bool) : Bool := x && !y
def Inn (c d : Tel) : Prop := ∀ n, 1 ≤ n → c.has n = true → d.has n = true
theorem within_is {c d : Tel} (hc : c.Ok) (hd : d.Ok) (cs : c.s ≤ 2000) (ds : d.s ≤ 2000) (cp : c.p ≤ 2000) (dp : d.p ≤ 2000) (lz : Nat.lcm c.p d.p ≤ 1900) : ∃ b : Bool, R_Calendar_within [calD c, calD d] = M.ret (.bl b) ∧ (b = true ↔ Inn c d) := by
  have jo := Tel.join_ok (f := lessB) hc hd
  have ji := joined_is lessB hc hd cs ds cp dp lz
  obtain ⟨b1, b2, b3⟩ := join_size (f := lessB) hc hd
  have po := Tel.plain_ok jo
  have pn := pln_nil po
  have es := Tel.es_len po
  have rs := Tel.rs_len po
  have eb := po.eb
  have rb := po.rb
  have key : (∀ n, 1 ≤ n → (Tel.join lessB c d).plain.has n = false) ↔ Inn c d := by
    unfold Inn
    refine forall_congr' fun n => forall_congr' fun hn => ?_
    rw [Tel.plain_has jo, Tel.join_has hc hd hn]
    unfold lessB
    cases c.has n <;> cases d.has n <;> simp
  rw [key] at pn
  simp only [R_Calendar_within, F_Calendar_within]
  unfold calD
  generalize hJ : (Tel.join lessB c d).plain = J at *
  have ji : R_joined [telD c, telD d, .str [48, 48, 49, 48]] = M.ret (telD J) := ji
  refine ⟨(natL J.es).isEmpty && (natL J.rs).isEmpty, ?_, ?_⟩
  · walk_at "ev11"
    rw [ji]
    unfold telD
    walk_at "ev11"
    rw [eqD_nil false (natL_ok (fun n hn => by have := eb n hn; omega) (by omega))]
    walk_at "ev11"
    cases (natL J.es).isEmpty
    · walk_at "ev11"
    · walk_at "ev11"
      rw [eqD_nil false (natL_ok (fun n hn => by have := rb n hn; omega) (by omega))]
      walk_at "ev11"
  · rw [← pn, Bool.and_eq_true, List.isEmpty_iff, List.isEmpty_iff]
    unfold natL
    rw [List.map_eq_nil_iff, List.map_eq_nil_iff]
def F_count_rest : Env2 → M Out :=
  (seqM (setM 4 [0, 2, 3] (e2 addD (rdEnv 0) (e2 modD (e2 subD (rdEnv 3) (rdEnv 0)) (rdEnv 2))))
  (retM [1, 2, 4] (eIf (t2 geD (rdEnv 4) (rdEnv 1)) (cst (.int 0)) (e2 addD (e2 divD (e2 subD (e2 subD (rdEnv 1) (cst (.int 1))) (rdEnv 4)) (rdEnv 2)) (cst (.int 1))))))
def R_count_rest : List D → M D := runD 5 F_count_rest
def F_Calendar_many_below : Env2 → M Out :=
  (seqM (unpM (bTup 4 (bCons (bName 3) (bCons (bName 4) (bCons (bName 5) (bCons (bName 6) bNil))))) [0] (e1 (slotD 2 0) (rdEnv 0)))
  (seqM (setM 2 [1, 3, 7] (eCall lenG (aC (eN (nLc [7] (iAny (rdEnv 3)) (bName 7) (t2 ltD (rdEnv 7) (rdEnv 1)) (rdEnv 7))) aN)))
  (seqM (ifM [1, 4] (t2 leD (rdEnv 1) (rdEnv 4))
  (retM [2] (rdEnv 2))
  sNil)
  (retM [1, 2, 4, 5, 6, 8] (e2 addD (rdEnv 2) (eCall sumF (aC (eN (nLc [8] (iAny (rdEnv 6)) (bName 8) cT (eCall R_count_rest (aC (rdEnv 4) (aC (rdEnv 1) (aC (rdEnv 5) (aC (rdEnv 8) aN))))))) aN)))))))
def R_Calendar_many_below : List D → M D := runD 9 F_Calendar_many_below
def F_Calendar_least_from : Env2 → M Out :=
  (seqM (unpM (bTup 4 (bCons (bName 4) (bCons (bName 5) (bCons (bName 6) (bCons (bName 7) bNil))))) [0] (e1 (slotD 2 0) (rdEnv 0)))
  (seqM (forA [4] (iAny (rdEnv 4)) (bName 2)
  (ifM [1, 2] (t2 geD (rdEnv 2) (rdEnv 1))
  (retM [2] (rdEnv 2))
  sNil))
  (seqM (ifM [7] (t2 (eqD false) (rdEnv 7) (eN (nLst aN)))
  (retM [] (cst .non))
  sNil)
  (seqM (setM 3 [1, 5] (eCall maxF (aC (rdEnv 1) (aC (rdEnv 5) aN))))
  (seqM (whileM [3, 6, 7] (t2 (inF true) (e2 modD (rdEnv 3) (rdEnv 6)) (rdEnv 7))
  (augD addF 3 [] (cst (.int 1))) 1000000)
  (retM [3] (rdEnv 3)))))))
def R_Calendar_least_from : List D → M D := runD 8 F_Calendar_least_from
def F_Calendar_gap_from : Env2 → M Out :=
  (retM [0, 1] (eMeth 2 R_Calendar_least_from (e1 (propD 2 R_Calendar___invert__) (rdEnv 0)) (aC (rdEnv 1) aN)))
def R_Calendar_gap_from : List D → M D := runD 2 F_Calendar_gap_from
def F_Calendar_nth : Env2 → M Out :=
  (seqM (unpM (bTup 4 (bCons (bName 4) (bCons (bName 5) (bCons (bName 6) (bCons (bName 7) bNil))))) [0] (e1 (slotD 2 0) (rdEnv 0)))
  (seqM (ifM [1, 4] (t2 ltD (rdEnv 1) (eCall lenG (aC (rdEnv 4) aN)))
  (retM [1, 4] (e2 ixF (rdEnv 4) (rdEnv 1)))
  sNil)
  (seqM (ifM [7] (t2 (eqD false) (rdEnv 7) (eN (nLst aN)))
  (retM [] (cst .non))
  sNil)
  (seqM (setNM 2 [5, 6, 7, 8] (nLc [8] (iRg2 (aC (rdEnv 5) (aC (e2 addD (rdEnv 5) (rdEnv 6)) aN))) (bName 8) (t2 (inF false) (e2 modD (rdEnv 8) (rdEnv 6)) (rdEnv 7)) (rdEnv 8)))
  (seqM (setM 3 [1, 4] (e2 subD (rdEnv 1) (eCall lenG (aC (rdEnv 4) aN))))
  (retM [2, 3, 6] (e2 addD (e2 ixF (rdEnv 2) (e2 modD (rdEnv 3) (eCall lenG (aC (rdEnv 2) aN)))) (e2 mulD (e2 divD (rdEnv 3) (eCall lenG (aC (rdEnv 2) aN))) (rdEnv 6)))))))))
def R_Calendar_nth : List D → M D := runD 9 F_Calendar_nth
theorem count_rest_is {s n p r : Nat} (hr : r < p) (hn : 1 ≤ n) (zp : p ≤ 100000) : R_count_rest [.int (s : Int), .int (n : Int), .int (p : Int), .int (r : Int)] = M.ret (.int ((crN s n p r : Nat) : Int)) := by
  have p0 : (p : Int) ≠ 0 := by omega
  have a := Int.emod_nonneg ((r : Int) - (s : Int)) p0
  have e : (s : Int) + ((r : Int) - (s : Int)) % (p : Int) = ((frN s p r : Nat) : Int) := by
    unfold frN
    rw [Int.natCast_add, Int.toNat_of_nonneg a]
  simp only [R_count_rest, F_count_rest]
  walk_at "ev11"
  rw [e]
  unfold crN
  generalize frN s p r = f
  by_cases z : n ≤ f
  · rw [if_pos z, decide_eq_true (show (n : Int) ≤ (f : Int) by omega)]
    walk_at "ev11"
    try rfl
  · rw [if_neg z, decide_eq_false (show ¬ (n : Int) ≤ (f : Int) by omega)]
    walk_at "ev11"
    rw [show ((n : Int) - 1 - (f : Int)) / (p : Int) + 1 = (((n - 1 - f) / p + 1 : Nat) : Int) by
      rw [show (n : Int) - 1 - (f : Int) = ((n - 1 - f : Nat) : Int) by omega, ← Int.natCast_ediv]
      rfl]
theorem sumF_nat (xs : List Nat) : sumF [.lst (natL xs)] = M.ret (.int ((xs.sum : Nat) : Int)) := by
  show (match intsD (natL xs) with
    | some is => M.ret (D.int is.sum)
    | none => M.fail) = _
  rw [natL_ints, intsD_map]
  show M.ret (D.int (xs.map fun (n : Nat) => (n : Int)).sum) = _
  congr 2
  induction xs with
  | nil => rfl
  | cons a l ih => rw [List.map_cons, List.sum_cons, List.sum_cons, ih, Int.natCast_add]
theorem many_is {c : Tel} (h : c.Ok) (cs : c.s ≤ 2000) (cp : c.p ≤ 2000) {n : Nat} (hn : 1 ≤ n) : R_Calendar_many_below [calD c, .int (n : Int)] = M.ret (.int ((c.cnt n : Nat) : Int)) := by
  have el := Tel.es_len h
  have rl := Tel.rs_len h
  obtain ⟨m, rfl⟩ : ∃ m, n = m + 1 := ⟨n - 1, by omega⟩
  rw [Tel.cnt_is h]
  generalize m + 1 = n at hn ⊢
  have rf := natL_flat c.rs
  have fz := List.length_filter_le (fun k => decide (k < n)) c.es
  simp only [R_Calendar_many_below, F_Calendar_many_below]
  unfold calD telD
  walk_at "ev11"
  rw [show natL c.es = c.es.map fun (n : Nat) => D.int (n : Int) from rfl, compM_filterI (l := fun (n : Nat) => [(7, D.int (n : Int))]) (k := fun k => decide (k < n)) (y := fun (n : Nat) => D.int (n : Int)) (xs := c.es) fun k hk => ⟨rfl, by
    walk_at "ev11"
    rw [show decide ((k : Int) < (n : Int)) = decide (k < n) from decide_eq_decide.mpr (by omega)], by walk_at "ev11"⟩]
  walk_at "ev11"
  rw [List.length_map]
  by_cases z : n ≤ c.s
  · rw [decide_eq_true (show (n : Int) ≤ (c.s : Int) by omega), Tel.many_low h z]
    walk_at "ev11"
  · rw [decide_eq_false (show ¬ (n : Int) ≤ (c.s : Int) by omega)]
    walk_at "ev11"
    rw [show natL c.rs = c.rs.map fun (n : Nat) => D.int (n : Int) from rfl, compM_mapI (l := fun (n : Nat) => [(8, D.int (n : Int))]) (y := fun r => D.int ((crN c.s n c.p r : Nat) : Int)) (xs := c.rs) fun r hr => ⟨rfl, rfl, by
      walk_at "ev11"
      rw [count_rest_is (h.rb r hr) hn (by omega)]
      walk_at "ev11"⟩]
    rw [show c.rs.map (fun r => D.int ((crN c.s n c.p r : Nat) : Int)) = natL (c.rs.map fun r => crN c.s n c.p r) by unfold natL; rw [List.map_map]; rfl]
    have sl := natL_len (c.rs.map fun r => crN c.s n c.p r)
    rw [List.length_map] at sl
    walk_at "ev11"
    rw [sumF_nat]
    walk_at "ev11"
    unfold Tel.many
    rw [← Int.natCast_add]
def optN : Option Nat → D
  | some n => .int (n : Int)
  | none => .non
def Fst (c : Tel) (n : Nat) : Option Nat → Prop
  | some m => n ≤ m ∧ c.has m = true ∧ ∀ k, n ≤ k → k < m → c.has k = false
  | none => ∀ k, n ≤ k → c.has k = false
theorem up_to {c : Tel} {s0 s1 s2 s4 s5 : Option DL.Slot} (h : c.Ok) (cp : c.p ≤ 2000) : ∀ (d fuel f : Nat), d < fuel → (f + d) % c.p ∈ c.rs → ∃ m, f ≤ m ∧ m % c.p ∈ c.rs ∧ (∀ k, f ≤ k → k < m → k % c.p ∉ c.rs) ∧
    whileM [3, 6, 7] (t2 (inF true) (e2 modD (rdEnv 3) (rdEnv 6)) (rdEnv 7)) (augD addF 3 [] (cst (.int 1))) fuel [s0, s1, s2, some (.val (.int (f : Int))), s4, s5, some (.val (.int (c.p : Int))), some (.val (.lst (natL c.rs)))] = M.ret (.nx [s0, s1, s2, some (.val (.int (m : Int))), s4, s5, some (.val (.int (c.p : Int))), some (.val (.lst (natL c.rs)))])
  | d, fuel + 1, f, hf, hd => by
    have p1 := h.p1
    by_cases e : f % c.p ∈ c.rs
    · refine ⟨f, Nat.le_refl _, e, fun k a b => by omega, ?_⟩
      rw [q_whileM]
      walk_at "ev11"
      rw [natmod]
      walk_at "ev11"
      rw [decide_eq_false (show ¬ f % c.p ∉ c.rs from fun q => q e)]
      walk_at "ev11"
    · cases d with
      | zero => exact absurd hd e
      | succ d =>
        obtain ⟨m, a, b, q, w⟩ := up_to (s0 := s0) (s1 := s1) (s2 := s2) (s4 := s4) (s5 := s5) h cp d fuel (f + 1) (by omega) (by rw [show f + 1 + d = f + (d + 1) by omega]; exact hd)
        refine ⟨m, by omega, b, fun k k1 k2 => ?_, ?_⟩
        · rcases Nat.lt_or_ge f k with z | z
          · exact q k z k2
          · rw [show k = f by omega]; exact e
        · rw [q_whileM]
          walk_at "ev11"
          rw [natmod]
          walk_at "ev11"
          rw [show (f : Int) + 1 = ((f + 1 : Nat) : Int) by omega]
          exact w
theorem first_ge {n : Nat} : ∀ {xs : List Nat}, xs.Pairwise (· < ·) → (∃ m ∈ xs, n ≤ m) → ∃ l m r, xs = l ++ m :: r ∧ n ≤ m ∧ ∀ k ∈ l, k < n
  | [], _, ⟨m, h, _⟩ => by cases h
  | x :: xs, hp, ⟨m, hm, hn⟩ => by
    rw [List.pairwise_cons] at hp
    by_cases e : n ≤ x
    · exact ⟨[], x, xs, rfl, e, fun k hk => by cases hk⟩
    · obtain ⟨l, m', r, e1, e2, e3⟩ := first_ge hp.2 ⟨m, by
        rcases List.mem_cons.mp hm with q | q
        · omega
        · exact q, hn⟩
      exact ⟨x :: l, m', r, by rw [e1]; rfl, e2, fun k hk => by
        rcases List.mem_cons.mp hk with q | q
        · omega
        · exact e3 k q⟩
def lfB : Env2 → M Out := ifM [1, 2] (t2 geD (rdEnv 2) (rdEnv 1)) (retM [2] (rdEnv 2)) sNil
theorem lf_pass {s0 s3 s4 s5 s6 s7 : Option DL.Slot} {n : Nat} {ys : List D} : ∀ (l : List Nat) (s2 : Option DL.Slot), (∀ k ∈ l, k < n) → ∃ s2', loopM (bName 2) lfB (natL l ++ ys) [s0, some (.val (.int (n : Int))), s2, s3, s4, s5, s6, s7] = loopM (bName 2) lfB ys [s0, some (.val (.int (n : Int))), s2', s3, s4, s5, s6, s7]
  | [], s2, _ => ⟨s2, rfl⟩
  | k :: l, s2, h => by
    obtain ⟨s2', e⟩ := lf_pass (s0 := s0) (s3 := s3) (s4 := s4) (s5 := s5) (s6 := s6) (s7 := s7) (ys := ys) l (some (.val (.int (k : Int)))) fun z hz => h z (List.mem_cons_of_mem _ hz)
    refine ⟨s2', ?_⟩
    have hk := h k List.mem_cons_self
    rw [show natL (k :: l) ++ ys = D.int (k : Int) :: (natL l ++ ys) from rfl, ← e]
    generalize natL l ++ ys = zs
    have hb : lfB [s0, some (.val (.int (n : Int))), some (.val (.int (k : Int))), s3, s4, s5, s6, s7] = M.ret (.nx [s0, some (.val (.int (n : Int))), some (.val (.int (k : Int))), s3, s4, s5, s6, s7]) := by
      unfold lfB
      walk_at "ev11"
    rw [loopM_cons]
    show M.bind (lfB [s0, some (.val (.int (n : Int))), some (.val (.int (k : Int))), s3, s4, s5, s6, s7]) _ = _
    rw [hb, M.ret_bind]
theorem lf_hit {s0 s2 s3 s4 s5 s6 s7 : Option DL.Slot} {n m : Nat} {ys : List D} (h : n ≤ m) : loopM (bName 2) lfB (D.int (m : Int) :: ys) [s0, some (.val (.int (n : Int))), s2, s3, s4, s5, s6, s7] = M.ret (.rt (.int (m : Int))) := by
  have hb : lfB [s0, some (.val (.int (n : Int))), some (.val (.int (m : Int))), s3, s4, s5, s6, s7] = M.ret (.rt (.int (m : Int))) := by
    unfold lfB
    walk_at "ev11"
  rw [loopM_cons]
  show M.bind (lfB [s0, some (.val (.int (n : Int))), some (.val (.int (m : Int))), s3, s4, s5, s6, s7]) _ = _
  rw [hb, M.ret_bind]
theorem least_is {c : Tel} (h : c.Ok) (cs : c.s ≤ 2000) (cp : c.p ≤ 2000) {n : Nat} (hn : 1 ≤ n) : ∃ o, R_Calendar_least_from [calD c, .int (n : Int)] = M.ret (optN o) ∧ Fst c n o := by
  have el := Tel.es_len h
  have rl := Tel.rs_len h
  simp only [R_Calendar_least_from, F_Calendar_least_from]
  unfold calD telD
  walk_at "ev11"
  rw [show (ifM [1, 2] (t2 geD (rdEnv 2) (rdEnv 1)) (retM [2] (rdEnv 2)) sNil) = lfB from rfl]
  by_cases e : ∃ m ∈ c.es, n ≤ m
  · obtain ⟨l, m, r, e1, e2, e3⟩ := first_ge h.ea e
    refine ⟨some m, ?_, e2, ?_, fun k k1 k2 => ?_⟩
    · generalize hE : natL c.es = ES
      rw [show ES = natL l ++ D.int (m : Int) :: natL r by rw [← hE, e1]; unfold natL; rw [List.map_append]; rfl]
      obtain ⟨s2', pe⟩ := lf_pass (s0 := some (.val (.obj 2 [.tup [.lst (natL l ++ D.int (m : Int) :: natL r), .int (c.s : Int), .int (c.p : Int), .lst (natL c.rs)]]))) (n := n) (s3 := none) (s4 := some (.val (.lst (natL l ++ D.int (m : Int) :: natL r)))) (s5 := some (.val (.int (c.s : Int)))) (s6 := some (.val (.int (c.p : Int)))) (s7 := some (.val (.lst (natL c.rs)))) (ys := D.int (m : Int) :: natL r) l none e3
      rw [pe, lf_hit e2]
      walk_at "ev11"
      rfl
    · have hm : m ∈ c.es := by rw [e1]; exact List.mem_append_right _ List.mem_cons_self
      unfold Tel.has
      rw [if_pos (h.eb m hm).2]
      exact decide_eq_true hm
    · have hm : m ∈ c.es := by rw [e1]; exact List.mem_append_right _ List.mem_cons_self
      have := (h.eb m hm).2
      unfold Tel.has
      rw [if_pos (by omega), decide_eq_false_iff_not]
      intro hk
      have pw := h.ea
      rw [e1] at hk pw
      rcases List.mem_append.mp hk with q | q
      · have := e3 k q; omega
      · rcases List.mem_cons.mp q with q | q
        · omega
        · have := (List.pairwise_cons.mp (List.pairwise_append.mp pw).2.1).1 k q
          omega
  · have all : ∀ k ∈ c.es, k < n := fun k hk => by
      rcases Nat.lt_or_ge k n with z | z
      · exact z
      · exact absurd ⟨k, hk, z⟩ e
    have notE : ∀ k, n ≤ k → k < c.s → c.has k = false := fun k k1 k2 => by
      unfold Tel.has
      rw [if_pos k2, decide_eq_false_iff_not]
      intro q
      have := all k q
      omega
    obtain ⟨s2', pe⟩ := lf_pass (s0 := some (.val (.obj 2 [.tup [.lst (natL c.es), .int (c.s : Int), .int (c.p : Int), .lst (natL c.rs)]]))) (n := n) (s3 := none) (s4 := some (.val (.lst (natL c.es)))) (s5 := some (.val (.int (c.s : Int)))) (s6 := some (.val (.int (c.p : Int)))) (s7 := some (.val (.lst (natL c.rs)))) (ys := []) c.es none all
    rw [List.append_nil] at pe
    by_cases re : c.rs = []
    · refine ⟨none, ?_, fun k k1 => ?_⟩
      · rw [pe, loopM_nil]
        walk_at "ev11"
        rw [re]
        rw [eqD_nil false (show okA (.lst (natL [])) = true by decide +kernel)]
        walk_at "ev11"
        rw [show (natL []).isEmpty = true from rfl]
        walk_at "ev11"
        rfl
      · rcases Nat.lt_or_ge k c.s with z | z
        · exact notE k k1 z
        · unfold Tel.has
          rw [if_neg (by omega), re]
          rfl
    · obtain ⟨r, hr⟩ : ∃ r, r ∈ c.rs := by
        cases hc : c.rs with
        | nil => exact absurd hc re
        | cons a l => exact ⟨a, List.mem_cons_self⟩
      have ne : (natL c.rs).isEmpty = false := by
        cases hc : c.rs with
        | nil => exact absurd hc re
        | cons a l => rfl
      obtain ⟨f1, f2, f3⟩ := frN_is (s := max n c.s) (h.rb r hr)
      obtain ⟨m, m1, m2, m3, m4⟩ := up_to (s0 := some (.val (.obj 2 [.tup [.lst (natL c.es), .int (c.s : Int), .int (c.p : Int), .lst (natL c.rs)]]))) (s1 := some (.val (.int (n : Int)))) (s2 := s2') (s4 := some (.val (.lst (natL c.es)))) (s5 := some (.val (.int (c.s : Int)))) h cp (frN (max n c.s) c.p r - max n c.s) 1000000 (max n c.s) (by omega) (by rw [show max n c.s + (frN (max n c.s) c.p r - max n c.s) = frN (max n c.s) c.p r by omega, f3]; exact hr)
      refine ⟨some m, ?_, by omega, ?_, fun k k1 k2 => ?_⟩
      · rw [pe, loopM_nil]
        generalize 1000000 = F0 at m4 ⊢
        walk_at "ev11"
        rw [eqD_nil false (natL_ok (fun n hn => by have := h.rb n hn; omega) (by omega))]
        walk_at "ev11"
        rw [ne]
        walk_at "ev11"
        rw [maxZ_nat]
        rw [m4]
        walk_at "ev11"
        rfl
      · unfold Tel.has
        rw [if_neg (by omega)]
        exact decide_eq_true m2
      · rcases Nat.lt_or_ge k c.s with z | z
        · exact notE k k1 z
        · unfold Tel.has
          rw [if_neg (by omega)]
          exact decide_eq_false (m3 k (by omega) k2)
theorem gap_is {c : Tel} (h : c.Ok) (cs : c.s ≤ 2000) (cp : c.p ≤ 2000) {n : Nat} (hn : 1 ≤ n) : ∃ o, R_Calendar_gap_from [calD c, .int (n : Int)] = M.ret (optN o) ∧ R_Calendar_least_from [calD c.neg.plain, .int (n : Int)] = M.ret (optN o) ∧ Fst c.neg.plain n o := by
  have no := Tel.neg_ok h
  have po := Tel.plain_ok no
  have s1 := Tel.first_le no
  have p1 := (Tel.per_le no).2
  obtain ⟨o, e1, e2⟩ := least_is po (Nat.le_trans s1 cs) (Nat.le_trans p1 cp) hn
  refine ⟨o, ?_, e1, e2⟩
  have iv := invert_is h cs cp
  simp only [R_Calendar_gap_from, F_Calendar_gap_from]
  unfold calD at iv e1 ⊢
  walk_at "ev11"
  rw [iv]
  walk_at "ev11"
  rw [e1]
  walk_at "ev11"
theorem nth_is {c : Tel} (h : c.Ok) (cs : c.s ≤ 2000) (cp : c.p ≤ 2000) {m : Nat} (hm : 1 ≤ m) (hh : c.has m = true) : R_Calendar_nth [calD c, .int ((c.cnt m : Nat) : Int)] = M.ret (.int (m : Int)) := by
  have el := Tel.es_len h
  have rl := Tel.rs_len h
  have en := natL_len c.es
  simp only [R_Calendar_nth, F_Calendar_nth]
  unfold calD telD
  rcases Nat.lt_or_ge m c.s with z | z
  · have := Tel.nth_near h hm hh z
    have lt : c.cnt m < c.es.length := (List.getElem?_eq_some_iff.mp this).1
    have at1 : atI (natL c.es) ((c.cnt m : Nat) : Int) = some (.int (m : Int)) := atI_nat (by unfold natL; rw [List.getElem?_map, this]; rfl)
    walk_at "ev11"
    rw [at1]
    walk_at "ev11"
  · obtain ⟨v, q, n1, n2, n3, n4, n5⟩ := Tel.nth_far h hh z
    have s1 := h.s1
    have rf : c.rnd.length ≤ c.p := by
      unfold Tel.rnd
      refine Nat.le_trans (List.length_filter_le _ _) ?_
      rw [List.length_range']
      exact Nat.le_refl _
    have rn := natL_len c.rnd
    have ne : (natL c.rs).isEmpty = false := by
      cases hc : c.rs with
      | nil =>
        have : c.rnd = [] := by
          unfold Tel.rnd
          rw [hc]
          exact List.filter_eq_nil_iff.mpr fun a _ => by simp
        rw [this] at n2
        cases n2
      | cons a l => rfl
    have at1 : atI (natL c.rnd) (((c.cnt m - c.es.length) % c.rnd.length : Nat) : Int) = some (.int (v : Int)) := atI_nat (by unfold natL; rw [List.getElem?_map, n3]; rfl)
    have ff := natL_flat c.rnd
    have p1 := h.p1
    walk_at "ev11"
    rw [eqD_nil false (natL_ok (fun n hn => by have := h.rb n hn; omega) (by omega))]
    walk_at "ev11"
    rw [ne]
    walk_at "ev11"
    rw [show ((List.range ((c.s : Int) + (c.p : Int) - (c.s : Int)).toNat).map fun (k : Nat) => D.int ((c.s : Int) + (k : Int))) = (List.range' c.s c.p).map fun (n : Nat) => D.int (n : Int) by
      rw [show ((c.s : Int) + (c.p : Int) - (c.s : Int)).toNat = c.p by omega, List.range'_eq_map_range, List.map_map]
      exact List.map_congr_left fun k _ => by
        show D.int ((c.s : Int) + (k : Int)) = D.int ((c.s + k : Nat) : Int)
        rw [Int.natCast_add]]
    rw [compM_filterI (l := fun (n : Nat) => [(8, D.int (n : Int))]) (k := fun (n : Nat) => decide (n % c.p ∈ c.rs)) (y := fun (n : Nat) => D.int (n : Int)) (xs := List.range' c.s c.p) fun k hk => ⟨rfl, by
      walk_at "ev11"
      rw [natmod]
      walk_at "ev11", by walk_at "ev11"⟩]
    rw [show ((List.range' c.s c.p).filter fun n => decide (n % c.p ∈ c.rs)).map (fun (n : Nat) => D.int (n : Int)) = natL c.rnd from rfl]
    walk_at "ev11"
    rw [ff]
    walk_at "ev11"
    rw [show ((c.cnt m : Nat) : Int) - ((natL c.es).length : Int) = ((c.cnt m - c.es.length : Nat) : Int) by rw [en]; omega]
    rw [rn, natmod, at1]
    walk_at "ev11"
    rw [rn, ← Int.natCast_ediv, n4, ← Int.natCast_mul, ← Int.natCast_add, n5]
end LW
set_option Elab.async false
set_option maxRecDepth 100000
set_option autoImplicit false
set_option linter.unusedVariables false
set_option maxHeartbeats 4000000
namespace LW
open PySem L2 PySem.Spec PyProof.Rows DL
def top (i : Nat) : Stmt := PySem.Challenge.pw_standwaves_k44_whole_calendars_as_sets.main.body.getD i (.Pass ⟨0, 0, 0, 0⟩)
abbrev s__law_bag : Stmt := top 17
abbrev s_plain_telling : Stmt := top 10
abbrev s_is_integer : Stmt := top 4
abbrev s_is_number : Stmt := top 5
abbrev s_are_integers : Stmt := top 8
abbrev s_Calendar___init__ : Stmt := inCls (top 14) 1
abbrev s__law_made : Stmt := top 23
abbrev s__law_take : Stmt := top 18
abbrev s_common_multiple : Stmt := top 7
abbrev s_is_size : Stmt := top 9
abbrev s_joined : Stmt := top 11
abbrev s_Calendar___and__ : Stmt := inCls (top 14) 9
abbrev s_Calendar___invert__ : Stmt := inCls (top 14) 7
abbrev s_Calendar_start : Stmt := inCls (top 14) 3
abbrev s_Calendar_early : Stmt := inCls (top 14) 2
abbrev s_Calendar_period : Stmt := inCls (top 14) 4
abbrev s_Calendar_rests : Stmt := inCls (top 14) 5
abbrev s__law_telling : Stmt := top 24
abbrev s__law_calendar : Stmt := top 22
abbrev s_step_sums : Stmt := top 12
abbrev s_greatest_divisor : Stmt := top 13
abbrev s_Calendar_of_steps : Stmt := inCls (top 14) 17
abbrev s_Calendar___or__ : Stmt := inCls (top 14) 8
abbrev s_Calendar___xor__ : Stmt := inCls (top 14) 10
abbrev s_Calendar___eq__ : Stmt := inCls (top 14) 11
abbrev s_Calendar_within : Stmt := inCls (top 14) 12
abbrev s__law_long : Stmt := top 21
abbrev s_count_rest : Stmt := top 15
abbrev s_Calendar_many_below : Stmt := inCls (top 14) 15
abbrev s_Calendar_least_from : Stmt := inCls (top 14) 13
abbrev s_Calendar_gap_from : Stmt := inCls (top 14) 14
abbrev s_Calendar___contains__ : Stmt := inCls (top 14) 6
abbrev s_Calendar_nth : Stmt := inCls (top 14) 16
abbrev s__law_walk_right : Stmt := top 25
abbrev s_law : Stmt := top 26
structure Ads where
  a__law_bag : Addr
  d__law_bag : FuncData
  a_plain_telling : Addr
  d_plain_telling : FuncData
  a_is_integer : Addr
  d_is_integer : FuncData
  a_is_number : Addr
  d_is_number : FuncData
  a_are_integers : Addr
  d_are_integers : FuncData
  a_Calendar___init__ : Addr
  d_Calendar___init__ : FuncData
  a__law_made : Addr
  d__law_made : FuncData
  a__law_take : Addr
  d__law_take : FuncData
  a_common_multiple : Addr
  d_common_multiple : FuncData
  a_is_size : Addr
  d_is_size : FuncData
  a_joined : Addr
  d_joined : FuncData
  a_Calendar___and__ : Addr
  d_Calendar___and__ : FuncData
  a_Calendar___invert__ : Addr
  d_Calendar___invert__ : FuncData
  a_Calendar_start : Addr
  d_Calendar_start : FuncData
  a_Calendar_early : Addr
  d_Calendar_early : FuncData
  a_Calendar_period : Addr
  d_Calendar_period : FuncData
  a_Calendar_rests : Addr
  d_Calendar_rests : FuncData
  a__law_telling : Addr
  d__law_telling : FuncData
  a__law_calendar : Addr
  d__law_calendar : FuncData
  a_step_sums : Addr
  d_step_sums : FuncData
  a_greatest_divisor : Addr
  d_greatest_divisor : FuncData
  a_Calendar_of_steps : Addr
  d_Calendar_of_steps : FuncData
  a_Calendar___or__ : Addr
  d_Calendar___or__ : FuncData
  a_Calendar___xor__ : Addr
  d_Calendar___xor__ : FuncData
  a_Calendar___eq__ : Addr
  d_Calendar___eq__ : FuncData
  a_Calendar_within : Addr
  d_Calendar_within : FuncData
  a__law_long : Addr
  d__law_long : FuncData
  a_count_rest : Addr
  d_count_rest : FuncData
  a_Calendar_many_below : Addr
  d_Calendar_many_below : FuncData
  a_Calendar_least_from : Addr
  d_Calendar_least_from : FuncData
  a_Calendar_gap_from : Addr
  d_Calendar_gap_from : FuncData
  a_Calendar___contains__ : Addr
  d_Calendar___contains__ : FuncData
  a_Calendar_nth : Addr
  d_Calendar_nth : FuncData
  a__law_walk_right : Addr
  d__law_walk_right : FuncData
  a_law : Addr
  d_law : FuncData
  c_Calendar : Addr
  p_Calendar_its_telling : Addr
  g_Calendar_start : Addr
  g_Calendar_early : Addr
  g_Calendar_period : Addr
  g_Calendar_rests : Addr
  g_Calendar_of_steps : Addr
structure Txt (K : PySem.W.Frag) (mg : Str → Option Value) (FA : Ads) : Prop where
  _law_bag : FnAt K mg "_law_bag" s__law_bag ["_law_script"] FA.a__law_bag FA.d__law_bag
  plain_telling : FnAt K mg "plain_telling" s_plain_telling ["told"] FA.a_plain_telling FA.d_plain_telling
  is_integer : FnAt K mg "is_integer" s_is_integer ["thing"] FA.a_is_integer FA.d_is_integer
  is_number : FnAt K mg "is_number" s_is_number ["thing"] FA.a_is_number FA.d_is_number
  are_integers : FnAt K mg "are_integers" s_are_integers ["thing", "low", "high"] FA.a_are_integers FA.d_are_integers
  Calendar___init__ : InitAt K FA.c_Calendar "Calendar.__init__" s_Calendar___init__ ["self", "start", "early", "period", "rests"] FA.a_Calendar___init__ FA.d_Calendar___init__
  _law_made : FnAt K mg "_law_made" s__law_made ["_law_told"] FA.a__law_made FA.d__law_made
  _law_take : FnAt K mg "_law_take" s__law_take ["_law_bag_here", "_law_many"] FA.a__law_take FA.d__law_take
  common_multiple : FnAt K mg "common_multiple" s_common_multiple ["one", "other"] FA.a_common_multiple FA.d_common_multiple
  is_size : FnAt K mg "is_size" s_is_size ["told", "number"] FA.a_is_size FA.d_is_size
  joined : FnAt K mg "joined" s_joined ["one", "other", "table"] FA.a_joined FA.d_joined
  Calendar___and__ : MethAt K FA.c_Calendar "__and__" "Calendar.__and__" s_Calendar___and__ ["self", "other"] FA.a_Calendar___and__ FA.d_Calendar___and__
  Calendar___invert__ : MethAt K FA.c_Calendar "__invert__" "Calendar.__invert__" s_Calendar___invert__ ["self"] FA.a_Calendar___invert__ FA.d_Calendar___invert__
  Calendar_start : GetAt K FA.c_Calendar FA.g_Calendar_start "start" "Calendar.start" s_Calendar_start ["self"] FA.a_Calendar_start FA.d_Calendar_start
  Calendar_early : GetAt K FA.c_Calendar FA.g_Calendar_early "early" "Calendar.early" s_Calendar_early ["self"] FA.a_Calendar_early FA.d_Calendar_early
  Calendar_period : GetAt K FA.c_Calendar FA.g_Calendar_period "period" "Calendar.period" s_Calendar_period ["self"] FA.a_Calendar_period FA.d_Calendar_period
  Calendar_rests : GetAt K FA.c_Calendar FA.g_Calendar_rests "rests" "Calendar.rests" s_Calendar_rests ["self"] FA.a_Calendar_rests FA.d_Calendar_rests
  _law_telling : FnAt K mg "_law_telling" s__law_telling ["_law_calendar_here"] FA.a__law_telling FA.d__law_telling
  _law_calendar : FnAt K mg "_law_calendar" s__law_calendar ["_law_bag_here"] FA.a__law_calendar FA.d__law_calendar
  step_sums : FnAt K mg "step_sums" s_step_sums ["steps", "most"] FA.a_step_sums FA.d_step_sums
  greatest_divisor : FnAt K mg "greatest_divisor" s_greatest_divisor ["numbers"] FA.a_greatest_divisor FA.d_greatest_divisor
  Calendar_of_steps : StatAt K FA.c_Calendar FA.g_Calendar_of_steps "of_steps" "Calendar.of_steps" s_Calendar_of_steps ["steps"] FA.a_Calendar_of_steps FA.d_Calendar_of_steps
  Calendar___or__ : MethAt K FA.c_Calendar "__or__" "Calendar.__or__" s_Calendar___or__ ["self", "other"] FA.a_Calendar___or__ FA.d_Calendar___or__
  Calendar___xor__ : MethAt K FA.c_Calendar "__xor__" "Calendar.__xor__" s_Calendar___xor__ ["self", "other"] FA.a_Calendar___xor__ FA.d_Calendar___xor__
  Calendar___eq__ : MethAt K FA.c_Calendar "__eq__" "Calendar.__eq__" s_Calendar___eq__ ["self", "other"] FA.a_Calendar___eq__ FA.d_Calendar___eq__
  Calendar_within : MethAt K FA.c_Calendar "within" "Calendar.within" s_Calendar_within ["self", "other"] FA.a_Calendar_within FA.d_Calendar_within
  _law_long : FnAt K mg "_law_long" s__law_long ["_law_bag_here"] FA.a__law_long FA.d__law_long
  count_rest : FnAt K mg "count_rest" s_count_rest ["start", "number", "period", "rest"] FA.a_count_rest FA.d_count_rest
  Calendar_many_below : MethAt K FA.c_Calendar "many_below" "Calendar.many_below" s_Calendar_many_below ["self", "number"] FA.a_Calendar_many_below FA.d_Calendar_many_below
  Calendar_least_from : MethAt K FA.c_Calendar "least_from" "Calendar.least_from" s_Calendar_least_from ["self", "number"] FA.a_Calendar_least_from FA.d_Calendar_least_from
  Calendar_gap_from : MethAt K FA.c_Calendar "gap_from" "Calendar.gap_from" s_Calendar_gap_from ["self", "number"] FA.a_Calendar_gap_from FA.d_Calendar_gap_from
  Calendar___contains__ : MethAt K FA.c_Calendar "__contains__" "Calendar.__contains__" s_Calendar___contains__ ["self", "thing"] FA.a_Calendar___contains__ FA.d_Calendar___contains__
  Calendar_nth : MethAt K FA.c_Calendar "nth" "Calendar.nth" s_Calendar_nth ["self", "place"] FA.a_Calendar_nth FA.d_Calendar_nth
  _law_walk_right : FnAt K mg "_law_walk_right" s__law_walk_right ["_law_one", "_law_number"] FA.a__law_walk_right FA.d__law_walk_right
  law : FnAt K mg "law" s_law ["_law_script"] FA.a_law FA.d_law
  C_Calendar : ClsAt K mg 2 FA.c_Calendar
  N_Calendar : PySem.W.mroIn K FA.c_Calendar (.type "object") = some true ∧ PySem.W.findIn K (.ref FA.c_Calendar) "__ne__" = some (some (.builtin "object.__ne__"))
  F_Calendar : PySem.W.selfFirst K FA.c_Calendar = true
  I_Calendar : IsiAt K FA.c_Calendar
  S_Calendar_its_telling : SlX.Slot1 K FA.c_Calendar "its_telling" FA.p_Calendar_its_telling 0
  b_abs : mg "abs" = none
  b_all : mg "all" = none
  b_any : mg "any" = none
  b_bool : mg "bool" = none
  b_int : mg "int" = none
  b_isinstance : mg "isinstance" = none
  b_len : mg "len" = none
  b_list : mg "list" = none
  b_max : mg "max" = none
  b_min : mg "min" = none
  b_range : mg "range" = none
  b_set : mg "set" = none
  b_sorted : mg "sorted" = none
  b_sum : mg "sum" = none
  b_tuple : mg "tuple" = none
section
variable {P : Program} {w : World} {K : PySem.W.Frag} {mg : Str → Option Value} {base : Heap} {FA : Ads}
theorem sc__law_bag : FnScope ["_law_script", "_law_cell"] ["_law_script"] (defScope s__law_bag) := ⟨rfl, rfl, rfl, by decide +kernel, rfl, by decide +kernel, by decide +kernel⟩
theorem ok__law_bag (T : Txt K mg FA) : FnOk P w K mg base CX0 1 FA.a__law_bag FA.d__law_bag ["_law_script"] (spN K 1 R__law_bag) :=
  fnN T._law_bag.fn sc__law_bag fun cdv A outer s H E hr =>
  (ss_one (s_retN [0, 1] (dn_lst (da_cons d_int (da_cons d_int (da_cons d_int (da_cons (d_n (dn_lc (own := [("_law_cell", 1)]) rfl sc__law_bag.nd (di_any (d_slice (dv 0) do_none (do_some d_int))) (blkOk_by (N := ["_law_script", "_law_cell"]) (sc := defScope s__law_bag) (by decide +kernel)) (tg_name 1) (by decide) (fun _ _ _ _ _ => (pg_name (i := 1) sc__law_bag.nd rfl (by first | exact Or.inl rfl | exact Or.inr rfl))) (fun _ _ _ _ _ => dts_nil) (fun _ _ _ _ _ => (d_abs rfl T.b_abs (da_cons (dv 1) da_nil))))) da_nil)))))))
theorem sc_plain_telling : FnScope ["told", "divisors", "least", "fewer", "unlike", "first", "early", "start", "period", "rests", "size", "number", "rest", "one"] ["told"] (defScope s_plain_telling) := ⟨rfl, rfl, rfl, by decide +kernel, rfl, by decide +kernel, by decide +kernel⟩
theorem ok_plain_telling (T : Txt K mg FA) : FnOk P w K mg base CX0 1 FA.a_plain_telling FA.d_plain_telling ["told"] (spD K 1 R_plain_telling) :=
  fnD T.plain_telling.fn sc_plain_telling fun cdv A outer s H E hr =>
  (ss_cons (s_unp (bs := (bTup 4 (bCons (bName 6) (bCons (bName 7) (bCons (bName 8) (bCons (bName 9) bNil)))))) [0] (dv 0) (pg_tup (by rfl) (pgs_cons (pg_name (i := 6) sc_plain_telling.nd rfl (by first | exact Or.inl rfl | exact Or.inr rfl)) (pgs_cons (pg_name (i := 7) sc_plain_telling.nd rfl (by first | exact Or.inl rfl | exact Or.inr rfl)) (pgs_cons (pg_name (i := 8) sc_plain_telling.nd rfl (by first | exact Or.inl rfl | exact Or.inr rfl)) (pgs_cons (pg_name (i := 9) sc_plain_telling.nd rfl (by first | exact Or.inl rfl | exact Or.inr rfl)) pgs_nil))))) (tg_tup 4 (tgs_cons (tg_name 6) (tgs_cons (tg_name 7) (tgs_cons (tg_name 8) (tgs_cons (tg_name 9) tgs_nil))))))
  (ss_cons (s_setLc (own := [("size", 10)]) 1 [8, 10] rfl sc_plain_telling.nd rfl rfl (sw_true rfl rfl rfl (by decide +kernel)) (di_r (dr_range2 rfl T.b_range (da_cons d_int (da_cons (d_add (dv 8) d_int) da_nil)))) (blkOk_by (N := ["told", "divisors", "least", "fewer", "unlike", "first", "early", "start", "period", "rests", "size", "number", "rest", "one"]) (sc := defScope s_plain_telling) (by decide +kernel)) (tg_name 10) (by decide) (fun _ _ _ _ _ => (pg_name (i := 10) sc_plain_telling.nd rfl (by first | exact Or.inl rfl | exact Or.inr rfl))) (fun _ _ _ _ _ => (dts_one (t_eq hr.units (d_mod (dv 8) (dv 10)) d_int))) (fun _ _ _ _ _ => (dv 10)))
  (ss_cons (s_set 2 [1, 8, 9, 10, 12] sc_plain_telling.nd rfl (by first | exact Or.inl rfl | exact Or.inr rfl) (d_ixF hr.units (d_n (dn_lc (own := [("size", 10)]) rfl sc_plain_telling.nd (di_any (dv 1)) (blkOk_by (N := ["told", "divisors", "least", "fewer", "unlike", "first", "early", "start", "period", "rests", "size", "number", "rest", "one"]) (sc := defScope s_plain_telling) (by decide +kernel)) (tg_name 10) (by decide) (fun _ _ _ _ _ => (pg_name (i := 10) sc_plain_telling.nd rfl (by first | exact Or.inl rfl | exact Or.inr rfl))) (fun _ _ _ _ _ => (dts_one (t_val (d_all rfl rfl T.b_all (da_cons (d_n (dn_lc (own := [("rest", 12)]) rfl sc_plain_telling.nd (di_any (dv 9)) (blkOk_by (by rfl)) (tg_name 12) (by decide) (fun _ _ _ _ _ => (pg_name (i := 12) sc_plain_telling.nd rfl (by first | exact Or.inl rfl | exact Or.inr rfl))) (fun _ _ _ _ _ => dts_nil) (fun _ _ _ _ _ => (d_inF hr.units (d_mod (d_add (dv 12) (dv 10)) (dv 8)) (dv 9))))) da_nil))))) (fun _ _ _ _ _ => (dv 10)))) d_int))
  (ss_cons (s_setN 3 [2, 9, 12] sc_plain_telling.nd rfl (by first | exact Or.inl rfl | exact Or.inr rfl) (dn_sortSc (own := [("rest", 12)]) rfl T.b_sorted rfl sc_plain_telling.nd (di_any (dv 9)) (blkOk_by (N := ["told", "divisors", "least", "fewer", "unlike", "first", "early", "start", "period", "rests", "size", "number", "rest", "one"]) (sc := defScope s_plain_telling) (by decide +kernel)) (tg_name 12) (by decide) (fun _ _ _ _ _ => (pg_name (i := 12) sc_plain_telling.nd rfl (by first | exact Or.inl rfl | exact Or.inr rfl))) (fun _ _ _ _ _ => dts_nil) (fun _ _ _ _ _ => (d_mod (dv 12) (dv 2)))))
  (ss_cons (s_setLc (own := [("number", 11)]) 4 [2, 3, 6, 7, 11] rfl sc_plain_telling.nd rfl rfl (sw_true rfl rfl rfl (by decide +kernel)) (di_r (dr_range2 rfl T.b_range (da_cons d_int (da_cons (dv 7) da_nil)))) (blkOk_by (N := ["told", "divisors", "least", "fewer", "unlike", "first", "early", "start", "period", "rests", "size", "number", "rest", "one"]) (sc := defScope s_plain_telling) (by decide +kernel)) (tg_name 11) (by decide) (fun _ _ _ _ _ => (pg_name (i := 11) sc_plain_telling.nd rfl (by first | exact Or.inl rfl | exact Or.inr rfl))) (fun _ _ _ _ _ => (dts_one (t_ne hr.units (d_inF hr.units (dv 11) (dv 6)) (d_inF hr.units (d_mod (dv 11) (dv 2)) (dv 3))))) (fun _ _ _ _ _ => (dv 11)))
  (ss_cons (s_set 5 [4] sc_plain_telling.nd rfl (by first | exact Or.inl rfl | exact Or.inr rfl) (d_if (t_ne hr.units (dv 4) (d_n (dn_lst da_nil))) (d_add (d_ixF hr.units (dv 4) (d_neg d_int)) d_int) d_int))
  (ss_one (s_ret [2, 3, 5, 6, 13] (d_tup (da_cons (d_n (dn_sorted rfl T.b_sorted (da_cons (d_n (dn_lc (own := [("one", 13)]) rfl sc_plain_telling.nd (di_any (dv 6)) (blkOk_by (N := ["told", "divisors", "least", "fewer", "unlike", "first", "early", "start", "period", "rests", "size", "number", "rest", "one"]) (sc := defScope s_plain_telling) (by decide +kernel)) (tg_name 13) (by decide) (fun _ _ _ _ _ => (pg_name (i := 13) sc_plain_telling.nd rfl (by first | exact Or.inl rfl | exact Or.inr rfl))) (fun _ _ _ _ _ => (dts_one (t_lt (dv 13) (dv 5)))) (fun _ _ _ _ _ => (dv 13)))) da_nil))) (da_cons (dv 5) (da_cons (dv 2) (da_cons (dv 3) da_nil)))))))))))))
theorem sc_is_integer : FnScope ["thing"] ["thing"] (defScope s_is_integer) := ⟨rfl, rfl, rfl, by decide +kernel, rfl, by decide +kernel, by decide +kernel⟩
theorem ok_is_integer (T : Txt K mg FA) : FnOk P w K mg base CX0 1 FA.a_is_integer FA.d_is_integer ["thing"] (spD K 1 R_is_integer) :=
  fnD T.is_integer.fn sc_is_integer fun cdv A outer s H E hr =>
  (ss_one (s_ret [0] (d_and (d_isi (T := "int") (by decide) rfl T.b_isinstance rfl T.b_int (by decide +kernel) (dv 0)) (d_one (d_not (d_isi (T := "bool") (by decide) rfl T.b_isinstance rfl T.b_bool (by decide +kernel) (dv 0)))))))
theorem sc_is_number : FnScope ["thing"] ["thing"] (defScope s_is_number) := ⟨rfl, rfl, rfl, by decide +kernel, rfl, by decide +kernel, by decide +kernel⟩
theorem ok_is_number (T : Txt K mg FA) : FnOk P w K mg base CX0 2 FA.a_is_number FA.d_is_number ["thing"] (spD K 1 R_is_number) :=
  fnD T.is_number.fn sc_is_number fun cdv A outer s H E hr =>
  (ss_one (s_ret [0] (d_and (d_call (ok_is_integer T) (hr.mono (by decide)) rfl T.is_integer.gl T.is_integer.fn.kp T.is_integer.bd (da_cons (dv 0) da_nil) (ar_cons ar_nil)) (d_one (d_ge (dv 0) d_int)))))
theorem sc_are_integers : FnScope ["thing", "low", "high", "one"] ["thing", "low", "high"] (defScope s_are_integers) := ⟨rfl, rfl, rfl, by decide +kernel, rfl, by decide +kernel, by decide +kernel⟩
theorem ok_are_integers (T : Txt K mg FA) : FnOk P w K mg base CX0 2 FA.a_are_integers FA.d_are_integers ["thing", "low", "high"] (spD K 3 R_are_integers) :=
  fnD T.are_integers.fn sc_are_integers fun cdv A outer s H E hr =>
  (ss_cons (s_if [0, 1, 2, 3] (t_w (w_or (t_not (t_val (d_isi2 (T := "list") (U := "tuple") (by decide) (by decide) rfl T.b_isinstance rfl T.b_list (by decide +kernel) rfl T.b_tuple (by decide +kernel) (dv 0)))) (w_or1 (t_not (t_val (d_all rfl rfl T.b_all (da_cons (d_n (dn_lc (own := [("one", 3)]) rfl sc_are_integers.nd (di_any (dv 0)) (blkOk_by (N := ["thing", "low", "high", "one"]) (sc := defScope s_are_integers) (by decide +kernel)) (tg_name 3) (by decide) (fun _ _ _ _ _ => (pg_name (i := 3) sc_are_integers.nd rfl (by first | exact Or.inl rfl | exact Or.inr rfl))) (fun _ _ _ _ _ => dts_nil) (fun _ _ _ _ _ => (d_and (d_call (ok_is_integer T) (hr.mono (by decide)) rfl T.is_integer.gl T.is_integer.fn.kp T.is_integer.bd (da_cons (dv 3) da_nil) (ar_cons ar_nil)) (d_one (d_chain op_le op_lt snd_cmp snd_cmp (dv 1) (dv 3) (dv 2))))))) da_nil)))))))
  (ss_one (s_ret [] d_bl))
  ss_nil)
  (ss_one (s_ret [0] (d_eq hr.units (d_lenSet rfl rfl T.b_len rfl T.b_set (dv 0)) (d_lenG rfl T.b_len (da_cons (dv 0) da_nil))))))
theorem sc_Calendar___init__ : FnScope ["self", "start", "early", "period", "rests"] ["self", "start", "early", "period", "rests"] (defScope s_Calendar___init__) := ⟨rfl, rfl, rfl, by decide +kernel, rfl, by decide +kernel, by decide +kernel⟩
theorem ok_Calendar___init__ (T : Txt K mg FA) : FnOk P w K mg base CX0 3 FA.a_Calendar___init__ FA.d_Calendar___init__ ["self", "start", "early", "period", "rests"] (spI K 4 FA.c_Calendar calI) :=
  fnI T.Calendar___init__.fn sc_Calendar___init__ rfl init_Calendar fun cdv A outer s H E hr =>
  (i_cons (s_if [1] (t_not (t_val (d_call (ok_is_number T) (hr.mono (by decide)) rfl T.is_number.gl T.is_number.fn.kp T.is_number.bd (da_cons (dv 1) da_nil) (ar_cons ar_nil))))
  (ss_one s_fail)
  ss_nil)
  (i_cons (s_if [1, 2] (t_not (t_val (d_call (ok_are_integers T) (hr.mono (by decide)) rfl T.are_integers.gl T.are_integers.fn.kp T.are_integers.bd (da_cons (dv 2) (da_cons d_int (da_cons (dv 1) da_nil))) (ar_cons (ar_cons (ar_cons ar_nil))))))
  (ss_one s_fail)
  ss_nil)
  (i_cons (s_if [3] (t_not (t_val (d_call (ok_is_number T) (hr.mono (by decide)) rfl T.is_number.gl T.is_number.fn.kp T.is_number.bd (da_cons (dv 3) da_nil) (ar_cons ar_nil))))
  (ss_one s_fail)
  ss_nil)
  (i_cons (s_if [3, 4] (t_not (t_val (d_call (ok_are_integers T) (hr.mono (by decide)) rfl T.are_integers.gl T.are_integers.fn.kp T.are_integers.bd (da_cons (dv 4) (da_cons d_int (da_cons (dv 3) da_nil))) (ar_cons (ar_cons (ar_cons ar_nil))))))
  (ss_one s_fail)
  ss_nil)
  (i_one [1, 2, 3, 4] T.C_Calendar.cl T.S_Calendar_its_telling rfl (by first | exact Or.inl rfl | exact Or.inr (Or.inl rfl) | exact Or.inr (Or.inr rfl)) (d_call (ok_plain_telling T) (hr.mono (by decide)) rfl T.plain_telling.gl T.plain_telling.fn.kp T.plain_telling.bd (da_cons (d_tup (da_cons (d_n (dn_sorted rfl T.b_sorted (da_cons (dv 2) da_nil))) (da_cons (dv 1) (da_cons (dv 3) (da_cons (d_n (dn_sorted rfl T.b_sorted (da_cons (dv 4) da_nil))) da_nil))))) da_nil) (ar_cons ar_nil)))))))
def F__law_made : Env2 → M Out :=
  (retM [0] (eMake 2 calI (aC (e2 ixF (rdEnv 0) (cst (.int 0))) (aC (e2 ixF (rdEnv 0) (cst (.int 1))) (aC (e2 ixF (rdEnv 0) (cst (.int 2))) (aC (e2 ixF (rdEnv 0) (cst (.int 3))) aN))))))
def R__law_made : List D → M D := runD 1 F__law_made
theorem sc__law_made : FnScope ["_law_told"] ["_law_told"] (defScope s__law_made) := ⟨rfl, rfl, rfl, by decide +kernel, rfl, by decide +kernel, by decide +kernel⟩
theorem ok__law_made (T : Txt K mg FA) : FnOk P w K mg base CX0 5 FA.a__law_made FA.d__law_made ["_law_told"] (spD K 1 R__law_made) :=
  fnD T._law_made.fn sc__law_made fun cdv A outer s H E hr =>
  (ss_one (s_ret [0] (d_make T.C_Calendar T.Calendar___init__.im (ok_Calendar___init__ T) T.Calendar___init__.bd (hr.mono (by decide)) rfl T.C_Calendar.gl (da_cons (d_ixF hr.units (dv 0) d_int) (da_cons (d_ixF hr.units (dv 0) d_int) (da_cons (d_ixF hr.units (dv 0) d_int) (da_cons (d_ixF hr.units (dv 0) d_int) da_nil)))) (ar_cons (ar_cons (ar_cons (ar_cons ar_nil)))))))
theorem sc__law_take : FnScope ["_law_bag_here", "_law_many", "_law_begin", "_law_second", "_law_cell", "_law_mixed", "_law_value"] ["_law_bag_here", "_law_many"] (defScope s__law_take) := ⟨rfl, rfl, rfl, by decide +kernel, rfl, by decide +kernel, by decide +kernel⟩
theorem ok__law_take (T : Txt K mg FA) : FnOk P w K mg base CX0 1 FA.a__law_take FA.d__law_take ["_law_bag_here", "_law_many"] (spD K 2 R__law_take) :=
  fnD T._law_take.fn sc__law_take fun cdv A outer s H E hr =>
  (ss_cons (s_if [0] (t_eq hr.units (d_ix (dv 0) d_int) d_int)
  (ss_cons (s_set 4 [] sc__law_take.nd rfl (by first | exact Or.inl rfl | exact Or.inr rfl) d_int)
  (ss_cons (s_if [0] (t_lt (d_ix (dv 0) d_int) (d_len rfl T.b_len (da_cons (d_ix (dv 0) d_int) da_nil)))
  (ss_one (s_set 4 [0] sc__law_take.nd rfl (by first | exact Or.inl rfl | exact Or.inr rfl) (d_ix (d_ix (dv 0) d_int) (d_ix (dv 0) d_int))))
  ss_nil)
  (ss_cons (s_bagaug 0 [] (by decide))
  (ss_cons (s_if [4] (t_ge (dv 4) d_int)
  (ss_one (s_bagset 0 [4] (dv 4)))
  ss_nil)
  (ss_cons (s_set 5 [0, 4] sc__law_take.nd rfl (by first | exact Or.inl rfl | exact Or.inr rfl) (d_add (d_add (d_mul (d_ix (dv 0) d_int) d_int) (d_mod (d_cint rfl T.b_int (da_cons (dv 4) da_nil)) d_int)) (d_mul d_int (d_ix (dv 0) d_int))))
  (ss_one (s_bagset 0 [5] (d_mod (d_cint rfl T.b_int (da_cons (dv 5) da_nil)) d_int))))))))
  ss_nil)
  (ss_cons (s_if [0] (t_gt (d_ix (dv 0) d_int) d_int)
  (ss_cons (s_set 6 [0, 1] sc__law_take.nd rfl (by first | exact Or.inl rfl | exact Or.inr rfl) (d_mod (d_cint rfl T.b_int (da_cons (d_ix (dv 0) d_int) da_nil)) (dv 1)))
  (ss_cons (s_bagset 0 [0, 1] (d_div (d_ix (dv 0) d_int) (dv 1)))
  (ss_one (s_ret [6] (dv 6)))))
  ss_nil)
  (ss_cons (s_set 2 [0] sc__law_take.nd rfl (by first | exact Or.inl rfl | exact Or.inr rfl) (d_mod (d_cint rfl T.b_int (da_cons (d_mul (d_add (d_ix (dv 0) d_int) d_int) d_int) da_nil)) d_int))
  (ss_cons (s_set 3 [2] sc__law_take.nd rfl (by first | exact Or.inl rfl | exact Or.inr rfl) (d_mod (d_cint rfl T.b_int (da_cons (d_mul (d_mod (d_cint rfl T.b_int (da_cons (d_mul (dv 2) (dv 2)) da_nil)) d_int) d_int) da_nil)) d_int))
  (ss_cons (s_if [1] (t_gt (dv 1) d_int)
  (ss_one (s_ret [1, 2, 3] (d_mod (d_cint rfl T.b_int (da_cons (d_add (d_mul (dv 3) d_int) (dv 2)) da_nil)) (dv 1))))
  ss_nil)
  (ss_one (s_ret [1, 3] (d_mod (d_cint rfl T.b_int (da_cons (d_div (dv 3) d_int) da_nil)) (dv 1)))))))))
theorem sc_common_multiple : FnScope ["one", "other", "low", "high"] ["one", "other"] (defScope s_common_multiple) := ⟨rfl, rfl, rfl, by decide +kernel, rfl, by decide +kernel, by decide +kernel⟩
theorem ok_common_multiple (T : Txt K mg FA) : FnOk P w K mg base CX0 1 FA.a_common_multiple FA.d_common_multiple ["one", "other"] (spD K 2 R_common_multiple) :=
  fnD T.common_multiple.fn sc_common_multiple fun cdv A outer s H E hr =>
  (ss_cons (s_par 2 3 [0, 1] rfl sc_common_multiple.nd rfl rfl (by decide) rfl rfl (da_cons (dv 0) (da_cons (dv 1) da_nil)))
  (ss_cons (s_while 1000000 [2] PassesOwn.never (t_gt (dv 2) d_int)
  (ss_one (s_par 2 3 [2, 3] rfl sc_common_multiple.nd rfl rfl (by decide) rfl rfl (da_cons (d_mod (dv 3) (dv 2)) (da_cons (dv 2) da_nil)))))
  (ss_one (s_ret [0, 1, 3] (d_div (d_mul (dv 0) (dv 1)) (dv 3))))))
theorem sc_is_size : FnScope ["told", "number", "early", "start", "period", "rests"] ["told", "number"] (defScope s_is_size) := ⟨rfl, rfl, rfl, by decide +kernel, rfl, by decide +kernel, by decide +kernel⟩
theorem ok_is_size (T : Txt K mg FA) : FnOk P w K mg base CX0 1 FA.a_is_size FA.d_is_size ["told", "number"] (spD K 2 R_is_size) :=
  fnD T.is_size.fn sc_is_size fun cdv A outer s H E hr =>
  (ss_cons (s_unp (bs := (bTup 4 (bCons (bName 2) (bCons (bName 3) (bCons (bName 4) (bCons (bName 5) bNil)))))) [0] (dv 0) (pg_tup (by rfl) (pgs_cons (pg_name (i := 2) sc_is_size.nd rfl (by first | exact Or.inl rfl | exact Or.inr rfl)) (pgs_cons (pg_name (i := 3) sc_is_size.nd rfl (by first | exact Or.inl rfl | exact Or.inr rfl)) (pgs_cons (pg_name (i := 4) sc_is_size.nd rfl (by first | exact Or.inl rfl | exact Or.inr rfl)) (pgs_cons (pg_name (i := 5) sc_is_size.nd rfl (by first | exact Or.inl rfl | exact Or.inr rfl)) pgs_nil))))) (tg_tup 4 (tgs_cons (tg_name 2) (tgs_cons (tg_name 3) (tgs_cons (tg_name 4) (tgs_cons (tg_name 5) tgs_nil))))))
  (ss_one (s_ret [1, 2, 3, 4, 5] (d_if (t_lt (dv 1) (dv 3)) (d_inF hr.units (dv 1) (dv 2)) (d_inF hr.units (d_mod (dv 1) (dv 4)) (dv 5))))))
theorem sc_joined : FnScope ["one", "other", "table", "some", "sizes", "rests", "start", "period", "number", "n"] ["one", "other", "table"] (defScope s_joined) := ⟨rfl, rfl, rfl, by decide +kernel, rfl, by decide +kernel, by decide +kernel⟩
theorem ok_joined (T : Txt K mg FA) : FnOk P w K mg base CX0 2 FA.a_joined FA.d_joined ["one", "other", "table"] (spD K 3 R_joined) :=
  fnD T.joined.fn sc_joined fun cdv A outer s H E hr =>
  (ss_cons (s_unp (bs := (bTup 2 (bCons (bName 6) (bCons (bName 7) bNil)))) [0, 1] (d_tup (da_cons (d_max rfl rfl T.b_max (da_cons (d_ixF hr.units (dv 0) d_int) (da_cons (d_ixF hr.units (dv 1) d_int) da_nil))) (da_cons (d_call (ok_common_multiple T) (hr.mono (by decide)) rfl T.common_multiple.gl T.common_multiple.fn.kp T.common_multiple.bd (da_cons (d_ixF hr.units (dv 0) d_int) (da_cons (d_ixF hr.units (dv 1) d_int) da_nil)) (ar_cons (ar_cons ar_nil))) da_nil))) (pg_tup (by rfl) (pgs_cons (pg_name (i := 6) sc_joined.nd rfl (by first | exact Or.inl rfl | exact Or.inr rfl)) (pgs_cons (pg_name (i := 7) sc_joined.nd rfl (by first | exact Or.inl rfl | exact Or.inr rfl)) pgs_nil))) (tg_tup 2 (tgs_cons (tg_name 6) (tgs_cons (tg_name 7) tgs_nil))))
  (ss_cons (s_setLc (own := [("number", 8)]) 3 [6, 7, 8] rfl sc_joined.nd rfl rfl (sw_true rfl rfl rfl (by decide +kernel)) (di_r (dr_range2 rfl T.b_range (da_cons d_int (da_cons (d_add (dv 6) (dv 7)) da_nil)))) (blkOk_by (N := ["one", "other", "table", "some", "sizes", "rests", "start", "period", "number", "n"]) (sc := defScope s_joined) (by decide +kernel)) (tg_name 8) (by decide) (fun _ _ _ _ _ => (pg_name (i := 8) sc_joined.nd rfl (by first | exact Or.inl rfl | exact Or.inr rfl))) (fun _ _ _ _ _ => dts_nil) (fun _ _ _ _ _ => (dv 8)))
  (ss_cons (s_setLc (own := [("n", 9)]) 4 [0, 1, 2, 3, 9] rfl sc_joined.nd rfl rfl (sw_true rfl rfl rfl (by decide +kernel)) (di_any (dv 3)) (blkOk_by (N := ["one", "other", "table", "some", "sizes", "rests", "start", "period", "number", "n"]) (sc := defScope s_joined) (by decide +kernel)) (tg_name 9) (by decide) (fun _ _ _ _ _ => (pg_name (i := 9) sc_joined.nd rfl (by first | exact Or.inl rfl | exact Or.inr rfl))) (fun _ _ _ _ _ => (dts_one (t_eq hr.units (d_ixF hr.units (dv 2) (d_add (d_mul d_int (d_cint rfl T.b_int (da_cons (d_call (ok_is_size T) (hr.mono (by decide)) rfl T.is_size.gl T.is_size.fn.kp T.is_size.bd (da_cons (dv 0) (da_cons (dv 9) da_nil)) (ar_cons (ar_cons ar_nil))) da_nil))) (d_cint rfl T.b_int (da_cons (d_call (ok_is_size T) (hr.mono (by decide)) rfl T.is_size.gl T.is_size.fn.kp T.is_size.bd (da_cons (dv 1) (da_cons (dv 9) da_nil)) (ar_cons (ar_cons ar_nil))) da_nil)))) (d_str [49])))) (fun _ _ _ _ _ => (dv 9)))
  (ss_cons (s_setN 5 [4, 6, 7, 8] sc_joined.nd rfl (by first | exact Or.inl rfl | exact Or.inr rfl) (dn_sortSc (own := [("number", 8)]) rfl T.b_sorted rfl sc_joined.nd (di_any (dv 4)) (blkOk_by (N := ["one", "other", "table", "some", "sizes", "rests", "start", "period", "number", "n"]) (sc := defScope s_joined) (by decide +kernel)) (tg_name 8) (by decide) (fun _ _ _ _ _ => (pg_name (i := 8) sc_joined.nd rfl (by first | exact Or.inl rfl | exact Or.inr rfl))) (fun _ _ _ _ _ => (dts_one (t_ge (dv 8) (dv 6)))) (fun _ _ _ _ _ => (d_mod (dv 8) (dv 7)))))
  (ss_one (s_ret [4, 5, 6, 7, 8] (d_call (ok_plain_telling T) (hr.mono (by decide)) rfl T.plain_telling.gl T.plain_telling.fn.kp T.plain_telling.bd (da_cons (d_tup (da_cons (d_n (dn_lc (own := [("number", 8)]) rfl sc_joined.nd (di_any (dv 4)) (blkOk_by (N := ["one", "other", "table", "some", "sizes", "rests", "start", "period", "number", "n"]) (sc := defScope s_joined) (by decide +kernel)) (tg_name 8) (by decide) (fun _ _ _ _ _ => (pg_name (i := 8) sc_joined.nd rfl (by first | exact Or.inl rfl | exact Or.inr rfl))) (fun _ _ _ _ _ => (dts_one (t_lt (dv 8) (dv 6)))) (fun _ _ _ _ _ => (dv 8)))) (da_cons (dv 6) (da_cons (dv 7) (da_cons (dv 5) da_nil))))) da_nil) (ar_cons ar_nil))))))))
theorem sc_Calendar___and__ : FnScope ["self", "other", "early", "start", "period", "rests"] ["self", "other"] (defScope s_Calendar___and__) := ⟨rfl, rfl, rfl, by decide +kernel, rfl, by decide +kernel, by decide +kernel⟩
theorem ok_Calendar___and__ (T : Txt K mg FA) : FnOk P w K mg base CX0 5 FA.a_Calendar___and__ FA.d_Calendar___and__ ["self", "other"] (spD K 2 R_Calendar___and__) :=
  fnD T.Calendar___and__.fn sc_Calendar___and__ fun cdv A outer s H E hr =>
  (ss_cons (s_unp (bs := (bTup 4 (bCons (bName 2) (bCons (bName 3) (bCons (bName 4) (bCons (bName 5) bNil)))))) [0, 1] (d_call (ok_joined T) (hr.mono (by decide)) rfl T.joined.gl T.joined.fn.kp T.joined.bd (da_cons (d_slot T.C_Calendar T.S_Calendar_its_telling (dv 0)) (da_cons (d_slot T.C_Calendar T.S_Calendar_its_telling (dv 1)) (da_cons (d_str [48, 48, 48, 49]) da_nil))) (ar_cons (ar_cons (ar_cons ar_nil)))) (pg_tup (by rfl) (pgs_cons (pg_name (i := 2) sc_Calendar___and__.nd rfl (by first | exact Or.inl rfl | exact Or.inr rfl)) (pgs_cons (pg_name (i := 3) sc_Calendar___and__.nd rfl (by first | exact Or.inl rfl | exact Or.inr rfl)) (pgs_cons (pg_name (i := 4) sc_Calendar___and__.nd rfl (by first | exact Or.inl rfl | exact Or.inr rfl)) (pgs_cons (pg_name (i := 5) sc_Calendar___and__.nd rfl (by first | exact Or.inl rfl | exact Or.inr rfl)) pgs_nil))))) (tg_tup 4 (tgs_cons (tg_name 2) (tgs_cons (tg_name 3) (tgs_cons (tg_name 4) (tgs_cons (tg_name 5) tgs_nil))))))
  (ss_one (s_ret [2, 3, 4, 5] (d_make T.C_Calendar T.Calendar___init__.im (ok_Calendar___init__ T) T.Calendar___init__.bd (hr.mono (by decide)) rfl T.C_Calendar.gl (da_cons (dv 3) (da_cons (dv 2) (da_cons (dv 4) (da_cons (dv 5) da_nil)))) (ar_cons (ar_cons (ar_cons (ar_cons ar_nil))))))))
theorem sc_Calendar___invert__ : FnScope ["self", "others", "early", "start", "period", "rests", "rest", "number"] ["self"] (defScope s_Calendar___invert__) := ⟨rfl, rfl, rfl, by decide +kernel, rfl, by decide +kernel, by decide +kernel⟩
theorem ok_Calendar___invert__ (T : Txt K mg FA) : FnOk P w K mg base CX0 5 FA.a_Calendar___invert__ FA.d_Calendar___invert__ ["self"] (spD K 1 R_Calendar___invert__) :=
  fnD T.Calendar___invert__.fn sc_Calendar___invert__ fun cdv A outer s H E hr =>
  (ss_cons (s_unp (bs := (bTup 4 (bCons (bName 2) (bCons (bName 3) (bCons (bName 4) (bCons (bName 5) bNil)))))) [0] (d_slot T.C_Calendar T.S_Calendar_its_telling (dv 0)) (pg_tup (by rfl) (pgs_cons (pg_name (i := 2) sc_Calendar___invert__.nd rfl (by first | exact Or.inl rfl | exact Or.inr rfl)) (pgs_cons (pg_name (i := 3) sc_Calendar___invert__.nd rfl (by first | exact Or.inl rfl | exact Or.inr rfl)) (pgs_cons (pg_name (i := 4) sc_Calendar___invert__.nd rfl (by first | exact Or.inl rfl | exact Or.inr rfl)) (pgs_cons (pg_name (i := 5) sc_Calendar___invert__.nd rfl (by first | exact Or.inl rfl | exact Or.inr rfl)) pgs_nil))))) (tg_tup 4 (tgs_cons (tg_name 2) (tgs_cons (tg_name 3) (tgs_cons (tg_name 4) (tgs_cons (tg_name 5) tgs_nil))))))
  (ss_cons (s_setLc (own := [("rest", 6)]) 1 [4, 5, 6] rfl sc_Calendar___invert__.nd rfl rfl (sw_true rfl rfl rfl (by decide +kernel)) (di_r (dr_range1 rfl T.b_range (da_cons (dv 4) da_nil))) (blkOk_by (N := ["self", "others", "early", "start", "period", "rests", "rest", "number"]) (sc := defScope s_Calendar___invert__) (by decide +kernel)) (tg_name 6) (by decide) (fun _ _ _ _ _ => (pg_name (i := 6) sc_Calendar___invert__.nd rfl (by first | exact Or.inl rfl | exact Or.inr rfl))) (fun _ _ _ _ _ => (dts_one (t_notInF hr.units (dv 6) (dv 5)))) (fun _ _ _ _ _ => (dv 6)))
  (ss_one (s_ret [1, 2, 3, 4, 7] (d_make T.C_Calendar T.Calendar___init__.im (ok_Calendar___init__ T) T.Calendar___init__.bd (hr.mono (by decide)) rfl T.C_Calendar.gl (da_cons (dv 3) (da_cons (d_n (dn_lc (own := [("number", 7)]) rfl sc_Calendar___invert__.nd (di_r (dr_range2 rfl T.b_range (da_cons d_int (da_cons (dv 3) da_nil)))) (blkOk_by (N := ["self", "others", "early", "start", "period", "rests", "rest", "number"]) (sc := defScope s_Calendar___invert__) (by decide +kernel)) (tg_name 7) (by decide) (fun _ _ _ _ _ => (pg_name (i := 7) sc_Calendar___invert__.nd rfl (by first | exact Or.inl rfl | exact Or.inr rfl))) (fun _ _ _ _ _ => (dts_one (t_notInF hr.units (dv 7) (dv 2)))) (fun _ _ _ _ _ => (dv 7)))) (da_cons (dv 4) (da_cons (dv 1) da_nil)))) (ar_cons (ar_cons (ar_cons (ar_cons ar_nil)))))))))
theorem sc_Calendar_start : FnScope ["self"] ["self"] (defScope s_Calendar_start) := ⟨rfl, rfl, rfl, by decide +kernel, rfl, by decide +kernel, by decide +kernel⟩
theorem ok_Calendar_start (T : Txt K mg FA) : FnOk P w K mg base CX0 1 FA.a_Calendar_start FA.d_Calendar_start ["self"] (spD K 1 R_Calendar_start) :=
  fnD T.Calendar_start.fn sc_Calendar_start fun cdv A outer s H E hr =>
  (ss_one (s_ret [0] (d_ixF hr.units (d_slot T.C_Calendar T.S_Calendar_its_telling (dv 0)) d_int)))
theorem sc_Calendar_early : FnScope ["self"] ["self"] (defScope s_Calendar_early) := ⟨rfl, rfl, rfl, by decide +kernel, rfl, by decide +kernel, by decide +kernel⟩
theorem ok_Calendar_early (T : Txt K mg FA) : FnOk P w K mg base CX0 1 FA.a_Calendar_early FA.d_Calendar_early ["self"] (spN K 1 R_Calendar_early) :=
  fnN T.Calendar_early.fn sc_Calendar_early fun cdv A outer s H E hr =>
  (ss_one (s_retN [0] (dn_list rfl T.b_list (da_cons (d_ixF hr.units (d_slot T.C_Calendar T.S_Calendar_its_telling (dv 0)) d_int) da_nil))))
theorem sc_Calendar_period : FnScope ["self"] ["self"] (defScope s_Calendar_period) := ⟨rfl, rfl, rfl, by decide +kernel, rfl, by decide +kernel, by decide +kernel⟩
theorem ok_Calendar_period (T : Txt K mg FA) : FnOk P w K mg base CX0 1 FA.a_Calendar_period FA.d_Calendar_period ["self"] (spD K 1 R_Calendar_period) :=
  fnD T.Calendar_period.fn sc_Calendar_period fun cdv A outer s H E hr =>
  (ss_one (s_ret [0] (d_ixF hr.units (d_slot T.C_Calendar T.S_Calendar_its_telling (dv 0)) d_int)))
theorem sc_Calendar_rests : FnScope ["self"] ["self"] (defScope s_Calendar_rests) := ⟨rfl, rfl, rfl, by decide +kernel, rfl, by decide +kernel, by decide +kernel⟩
theorem ok_Calendar_rests (T : Txt K mg FA) : FnOk P w K mg base CX0 1 FA.a_Calendar_rests FA.d_Calendar_rests ["self"] (spN K 1 R_Calendar_rests) :=
  fnN T.Calendar_rests.fn sc_Calendar_rests fun cdv A outer s H E hr =>
  (ss_one (s_retN [0] (dn_list rfl T.b_list (da_cons (d_ixF hr.units (d_slot T.C_Calendar T.S_Calendar_its_telling (dv 0)) d_int) da_nil))))
def F__law_telling : Env2 → M Out :=
  (retNM [0] (nLst (aC (e1 (propD 2 R_Calendar_start) (rdEnv 0)) (aC (eN (n1M (propN 2 R_Calendar_early) (rdEnv 0))) (aC (e1 (propD 2 R_Calendar_period) (rdEnv 0)) (aC (eN (n1M (propN 2 R_Calendar_rests) (rdEnv 0))) aN))))))
def R__law_telling : List D → M (List D) := runN 1 F__law_telling
theorem sc__law_telling : FnScope ["_law_calendar_here"] ["_law_calendar_here"] (defScope s__law_telling) := ⟨rfl, rfl, rfl, by decide +kernel, rfl, by decide +kernel, by decide +kernel⟩
theorem ok__law_telling (T : Txt K mg FA) : FnOk P w K mg base CX0 3 FA.a__law_telling FA.d__law_telling ["_law_calendar_here"] (spN K 1 R__law_telling) :=
  fnN T._law_telling.fn sc__law_telling fun cdv A outer s H E hr =>
  (ss_one (s_retN [0] (dn_lst (da_cons (d_prop T.C_Calendar T.Calendar_start.pr (ok_Calendar_start T) T.Calendar_start.bd (hr.mono (by decide)) (dv 0)) (da_cons (d_n (dn_prop T.C_Calendar T.Calendar_early.pr (ok_Calendar_early T) T.Calendar_early.bd (hr.mono (by decide)) (dv 0))) (da_cons (d_prop T.C_Calendar T.Calendar_period.pr (ok_Calendar_period T) T.Calendar_period.bd (hr.mono (by decide)) (dv 0)) (da_cons (d_n (dn_prop T.C_Calendar T.Calendar_rests.pr (ok_Calendar_rests T) T.Calendar_rests.bd (hr.mono (by decide)) (dv 0))) da_nil)))))))
def F__law_calendar : Env2 → M Out :=
  (seqM (parM 4 5 [0] (aC (e2 addD (cst (.int 1)) (eCall R__law_take (aC (rdEnv 0) (aC (cst (.int 12)) aN)))) (aC (e2 addD (cst (.int 1)) (eCall R__law_take (aC (rdEnv 0) (aC (cst (.int 8)) aN)))) aN)))
  (seqM (setNM 1 [0, 4, 6] (nLc [6] (iRg2 (aC (cst (.int 1)) (aC (rdEnv 4) aN))) (bName 6) (t2 (eqD false) (eCall R__law_take (aC (rdEnv 0) (aC (cst (.int 2)) aN))) (cst (.int 0))) (rdEnv 6)))
  (seqM (setM 2 [0] (eCall R__law_take (aC (rdEnv 0) (aC (cst (.int 6)) aN))))
  (seqM (setNM 3 [0, 2, 5, 6] (nLc [6] (iRg1 (aC (rdEnv 5) aN)) (bName 6) (tOrM (tAndM (t2 gtD (rdEnv 2) (cst (.int 1))) (t2 (eqD false) (eCall R__law_take (aC (rdEnv 0) (aC (cst (.int 2)) aN))) (cst (.int 0)))) (t2 (eqD false) (rdEnv 2) (cst (.int 0)))) (rdEnv 6)))
  (retNM [1, 3, 4, 5] (nLst (aC (rdEnv 4) (aC (rdEnv 1) (aC (rdEnv 5) (aC (rdEnv 3) aN))))))))))
def R__law_calendar : List D → M (List D) := runN 7 F__law_calendar
theorem sc__law_calendar : FnScope ["_law_bag_here", "_law_early", "_law_way", "_law_rests", "_law_start", "_law_period", "_law_k"] ["_law_bag_here"] (defScope s__law_calendar) := ⟨rfl, rfl, rfl, by decide +kernel, rfl, by decide +kernel, by decide +kernel⟩
theorem ok__law_calendar (T : Txt K mg FA) : FnOk P w K mg base CX0 2 FA.a__law_calendar FA.d__law_calendar ["_law_bag_here"] (spN K 1 R__law_calendar) :=
  fnN T._law_calendar.fn sc__law_calendar fun cdv A outer s H E hr =>
  (ss_cons (s_par 4 5 [0] rfl sc__law_calendar.nd rfl rfl (by decide) rfl rfl (da_cons (d_add d_int (d_call (ok__law_take T) (hr.mono (by decide)) rfl T._law_take.gl T._law_take.fn.kp T._law_take.bd (da_cons (dv 0) (da_cons d_int da_nil)) (ar_cons (ar_cons ar_nil)))) (da_cons (d_add d_int (d_call (ok__law_take T) (hr.mono (by decide)) rfl T._law_take.gl T._law_take.fn.kp T._law_take.bd (da_cons (dv 0) (da_cons d_int da_nil)) (ar_cons (ar_cons ar_nil)))) da_nil)))
  (ss_cons (s_setLc (own := [("_law_k", 6)]) 1 [0, 4, 6] rfl sc__law_calendar.nd rfl rfl (sw_true rfl rfl rfl (by decide +kernel)) (di_r (dr_range2 rfl T.b_range (da_cons d_int (da_cons (dv 4) da_nil)))) (blkOk_by (N := ["_law_bag_here", "_law_early", "_law_way", "_law_rests", "_law_start", "_law_period", "_law_k"]) (sc := defScope s__law_calendar) (by decide +kernel)) (tg_name 6) (by decide) (fun _ _ _ _ _ => (pg_name (i := 6) sc__law_calendar.nd rfl (by first | exact Or.inl rfl | exact Or.inr rfl))) (fun _ _ _ _ _ => (dts_one (t_eq hr.units (d_call (ok__law_take T) (hr.mono (by decide)) rfl T._law_take.gl T._law_take.fn.kp T._law_take.bd (da_cons (dv 0) (da_cons d_int da_nil)) (ar_cons (ar_cons ar_nil))) d_int))) (fun _ _ _ _ _ => (dv 6)))
  (ss_cons (s_set 2 [0] sc__law_calendar.nd rfl (by first | exact Or.inl rfl | exact Or.inr rfl) (d_call (ok__law_take T) (hr.mono (by decide)) rfl T._law_take.gl T._law_take.fn.kp T._law_take.bd (da_cons (dv 0) (da_cons d_int da_nil)) (ar_cons (ar_cons ar_nil))))
  (ss_cons (s_setLc (own := [("_law_k", 6)]) 3 [0, 2, 5, 6] rfl sc__law_calendar.nd rfl rfl (sw_true rfl rfl rfl (by decide +kernel)) (di_r (dr_range1 rfl T.b_range (da_cons (dv 5) da_nil))) (blkOk_by (N := ["_law_bag_here", "_law_early", "_law_way", "_law_rests", "_law_start", "_law_period", "_law_k"]) (sc := defScope s__law_calendar) (by decide +kernel)) (tg_name 6) (by decide) (fun _ _ _ _ _ => (pg_name (i := 6) sc__law_calendar.nd rfl (by first | exact Or.inl rfl | exact Or.inr rfl))) (fun _ _ _ _ _ => (dts_one (t_w (w_or (t_w (w_and (t_gt (dv 2) d_int) (w_and1 (t_eq hr.units (d_call (ok__law_take T) (hr.mono (by decide)) rfl T._law_take.gl T._law_take.fn.kp T._law_take.bd (da_cons (dv 0) (da_cons d_int da_nil)) (ar_cons (ar_cons ar_nil))) d_int)))) (w_or1 (t_eq hr.units (dv 2) d_int)))))) (fun _ _ _ _ _ => (dv 6)))
  (ss_one (s_retN [1, 3, 4, 5] (dn_lst (da_cons (dv 4) (da_cons (dv 1) (da_cons (dv 5) (da_cons (dv 3) da_nil)))))))))))
theorem sc_step_sums : FnScope ["steps", "most", "found", "number", "step"] ["steps", "most"] (defScope s_step_sums) := ⟨rfl, rfl, rfl, by decide +kernel, rfl, by decide +kernel, by decide +kernel⟩
theorem ok_step_sums (T : Txt K mg FA) : FnOk P w K mg base CX0 1 FA.a_step_sums FA.d_step_sums ["steps", "most"] (spN K 2 R_step_sums) :=
  fnN T.step_sums.fn sc_step_sums fun cdv A outer s H E hr =>
  (ss_cons (s_setN 2 [1] sc_step_sums.nd rfl (by first | exact Or.inl rfl | exact Or.inr rfl) (dn_cat (d_n (dn_lst (da_cons d_bl da_nil))) (d_mul (d_n (dn_lst (da_cons d_bl da_nil))) (dv 1))))
  (ss_cons (s_forR [1] PassesOwn.never rfl (dr_range2 rfl T.b_range (da_cons d_int (da_cons (d_add (dv 1) d_int) da_nil))) (pg_name (i := 3) sc_step_sums.nd rfl (by first | exact Or.inl rfl | exact Or.inr rfl)) (tg_name 3)
  (ss_one (s_setAt 2 [0, 2, 3, 4] (dv 3) (d_any rfl rfl T.b_any (da_cons (d_n (dn_lc (own := [("step", 4)]) rfl sc_step_sums.nd (di_any (dv 0)) (blkOk_by (N := ["steps", "most", "found", "number", "step"]) (sc := defScope s_step_sums) (by decide +kernel)) (tg_name 4) (by decide) (fun _ _ _ _ _ => (pg_name (i := 4) sc_step_sums.nd rfl (by first | exact Or.inl rfl | exact Or.inr rfl))) (fun _ _ _ _ _ => dts_nil) (fun _ _ _ _ _ => (d_and (d_le (dv 4) (dv 3)) (d_one (d_ixF hr.units (dv 2) (d_sub (dv 3) (dv 4)))))))) da_nil)))))
  (ss_one (s_retN [1, 2, 3] (dn_lc (own := [("number", 3)]) rfl sc_step_sums.nd (di_r (dr_range2 rfl T.b_range (da_cons d_int (da_cons (d_add (dv 1) d_int) da_nil)))) (blkOk_by (N := ["steps", "most", "found", "number", "step"]) (sc := defScope s_step_sums) (by decide +kernel)) (tg_name 3) (by decide) (fun _ _ _ _ _ => (pg_name (i := 3) sc_step_sums.nd rfl (by first | exact Or.inl rfl | exact Or.inr rfl))) (fun _ _ _ _ _ => (dts_one (t_val (d_ixF hr.units (dv 2) (dv 3))))) (fun _ _ _ _ _ => (dv 3)))))))
theorem sc_greatest_divisor : FnScope ["numbers", "found", "number", "low", "high"] ["numbers"] (defScope s_greatest_divisor) := ⟨rfl, rfl, rfl, by decide +kernel, rfl, by decide +kernel, by decide +kernel⟩
theorem ok_greatest_divisor (T : Txt K mg FA) : FnOk P w K mg base CX0 1 FA.a_greatest_divisor FA.d_greatest_divisor ["numbers"] (spD K 1 R_greatest_divisor) :=
  fnD T.greatest_divisor.fn sc_greatest_divisor fun cdv A outer s H E hr =>
  (ss_cons (s_set 1 [] sc_greatest_divisor.nd rfl (by first | exact Or.inl rfl | exact Or.inr rfl) d_int)
  (ss_cons (s_for [0] PassesOwn.never rfl (di_any (dv 0)) (pg_name (i := 2) sc_greatest_divisor.nd rfl (by first | exact Or.inl rfl | exact Or.inr rfl)) (tg_name 2)
  (ss_cons (s_par 3 4 [1, 2] rfl sc_greatest_divisor.nd rfl rfl (by decide) rfl rfl (da_cons (dv 1) (da_cons (dv 2) da_nil)))
  (ss_cons (s_while 1000000 [3] PassesOwn.never (t_gt (dv 3) d_int)
  (ss_one (s_par 3 4 [3, 4] rfl sc_greatest_divisor.nd rfl rfl (by decide) rfl rfl (da_cons (d_mod (dv 4) (dv 3)) (da_cons (dv 3) da_nil)))))
  (ss_one (s_set 1 [4] sc_greatest_divisor.nd rfl (by first | exact Or.inl rfl | exact Or.inr rfl) (dv 4))))))
  (ss_one (s_ret [1] (dv 1)))))
theorem sc_Calendar_of_steps : FnScope ["steps", "most"] ["steps"] (defScope s_Calendar_of_steps) := ⟨rfl, rfl, rfl, by decide +kernel, rfl, by decide +kernel, by decide +kernel⟩
theorem ok_Calendar_of_steps (T : Txt K mg FA) : FnOk P w K mg base CX0 5 FA.a_Calendar_of_steps FA.d_Calendar_of_steps ["steps"] (spD K 1 R_Calendar_of_steps) :=
  fnD T.Calendar_of_steps.fn sc_Calendar_of_steps fun cdv A outer s H E hr =>
  (ss_cons (s_if [0] (t_eq hr.units (d_lenG rfl T.b_len (da_cons (dv 0) da_nil)) d_int)
  (ss_one (s_ret [] (d_make T.C_Calendar T.Calendar___init__.im (ok_Calendar___init__ T) T.Calendar___init__.bd (hr.mono (by decide)) rfl T.C_Calendar.gl (da_cons d_int (da_cons (d_n (dn_lst da_nil)) (da_cons d_int (da_cons (d_n (dn_lst da_nil)) da_nil)))) (ar_cons (ar_cons (ar_cons (ar_cons ar_nil)))))))
  ss_nil)
  (ss_cons (s_set 1 [0] sc_Calendar_of_steps.nd rfl (by first | exact Or.inl rfl | exact Or.inr rfl) (d_mul (d_maxG rfl rfl T.b_max (da_cons (dv 0) da_nil)) (d_maxG rfl rfl T.b_max (da_cons (dv 0) da_nil))))
  (ss_one (s_ret [0, 1] (d_make T.C_Calendar T.Calendar___init__.im (ok_Calendar___init__ T) T.Calendar___init__.bd (hr.mono (by decide)) rfl T.C_Calendar.gl (da_cons (d_add (dv 1) d_int) (da_cons (d_n (dn_call (ok_step_sums T) (hr.mono (by decide)) rfl T.step_sums.gl T.step_sums.fn.kp T.step_sums.bd (da_cons (dv 0) (da_cons (dv 1) da_nil)) (ar_cons (ar_cons ar_nil)))) (da_cons (d_call (ok_greatest_divisor T) (hr.mono (by decide)) rfl T.greatest_divisor.gl T.greatest_divisor.fn.kp T.greatest_divisor.bd (da_cons (dv 0) da_nil) (ar_cons ar_nil)) (da_cons (d_n (dn_lst (da_cons d_int da_nil))) da_nil)))) (ar_cons (ar_cons (ar_cons (ar_cons ar_nil)))))))))
theorem sc_Calendar___or__ : FnScope ["self", "other", "early", "start", "period", "rests"] ["self", "other"] (defScope s_Calendar___or__) := ⟨rfl, rfl, rfl, by decide +kernel, rfl, by decide +kernel, by decide +kernel⟩
theorem ok_Calendar___or__ (T : Txt K mg FA) : FnOk P w K mg base CX0 5 FA.a_Calendar___or__ FA.d_Calendar___or__ ["self", "other"] (spD K 2 R_Calendar___or__) :=
  fnD T.Calendar___or__.fn sc_Calendar___or__ fun cdv A outer s H E hr =>
  (ss_cons (s_unp (bs := (bTup 4 (bCons (bName 2) (bCons (bName 3) (bCons (bName 4) (bCons (bName 5) bNil)))))) [0, 1] (d_call (ok_joined T) (hr.mono (by decide)) rfl T.joined.gl T.joined.fn.kp T.joined.bd (da_cons (d_slot T.C_Calendar T.S_Calendar_its_telling (dv 0)) (da_cons (d_slot T.C_Calendar T.S_Calendar_its_telling (dv 1)) (da_cons (d_str [48, 49, 49, 49]) da_nil))) (ar_cons (ar_cons (ar_cons ar_nil)))) (pg_tup (by rfl) (pgs_cons (pg_name (i := 2) sc_Calendar___or__.nd rfl (by first | exact Or.inl rfl | exact Or.inr rfl)) (pgs_cons (pg_name (i := 3) sc_Calendar___or__.nd rfl (by first | exact Or.inl rfl | exact Or.inr rfl)) (pgs_cons (pg_name (i := 4) sc_Calendar___or__.nd rfl (by first | exact Or.inl rfl | exact Or.inr rfl)) (pgs_cons (pg_name (i := 5) sc_Calendar___or__.nd rfl (by first | exact Or.inl rfl | exact Or.inr rfl)) pgs_nil))))) (tg_tup 4 (tgs_cons (tg_name 2) (tgs_cons (tg_name 3) (tgs_cons (tg_name 4) (tgs_cons (tg_name 5) tgs_nil))))))
  (ss_one (s_ret [2, 3, 4, 5] (d_make T.C_Calendar T.Calendar___init__.im (ok_Calendar___init__ T) T.Calendar___init__.bd (hr.mono (by decide)) rfl T.C_Calendar.gl (da_cons (dv 3) (da_cons (dv 2) (da_cons (dv 4) (da_cons (dv 5) da_nil)))) (ar_cons (ar_cons (ar_cons (ar_cons ar_nil))))))))
theorem sc_Calendar___xor__ : FnScope ["self", "other", "early", "start", "period", "rests"] ["self", "other"] (defScope s_Calendar___xor__) := ⟨rfl, rfl, rfl, by decide +kernel, rfl, by decide +kernel, by decide +kernel⟩
theorem ok_Calendar___xor__ (T : Txt K mg FA) : FnOk P w K mg base CX0 5 FA.a_Calendar___xor__ FA.d_Calendar___xor__ ["self", "other"] (spD K 2 R_Calendar___xor__) :=
  fnD T.Calendar___xor__.fn sc_Calendar___xor__ fun cdv A outer s H E hr =>
  (ss_cons (s_unp (bs := (bTup 4 (bCons (bName 2) (bCons (bName 3) (bCons (bName 4) (bCons (bName 5) bNil)))))) [0, 1] (d_call (ok_joined T) (hr.mono (by decide)) rfl T.joined.gl T.joined.fn.kp T.joined.bd (da_cons (d_slot T.C_Calendar T.S_Calendar_its_telling (dv 0)) (da_cons (d_slot T.C_Calendar T.S_Calendar_its_telling (dv 1)) (da_cons (d_str [48, 49, 49, 48]) da_nil))) (ar_cons (ar_cons (ar_cons ar_nil)))) (pg_tup (by rfl) (pgs_cons (pg_name (i := 2) sc_Calendar___xor__.nd rfl (by first | exact Or.inl rfl | exact Or.inr rfl)) (pgs_cons (pg_name (i := 3) sc_Calendar___xor__.nd rfl (by first | exact Or.inl rfl | exact Or.inr rfl)) (pgs_cons (pg_name (i := 4) sc_Calendar___xor__.nd rfl (by first | exact Or.inl rfl | exact Or.inr rfl)) (pgs_cons (pg_name (i := 5) sc_Calendar___xor__.nd rfl (by first | exact Or.inl rfl | exact Or.inr rfl)) pgs_nil))))) (tg_tup 4 (tgs_cons (tg_name 2) (tgs_cons (tg_name 3) (tgs_cons (tg_name 4) (tgs_cons (tg_name 5) tgs_nil))))))
  (ss_one (s_ret [2, 3, 4, 5] (d_make T.C_Calendar T.Calendar___init__.im (ok_Calendar___init__ T) T.Calendar___init__.bd (hr.mono (by decide)) rfl T.C_Calendar.gl (da_cons (dv 3) (da_cons (dv 2) (da_cons (dv 4) (da_cons (dv 5) da_nil)))) (ar_cons (ar_cons (ar_cons (ar_cons ar_nil))))))))
theorem sc_Calendar___eq__ : FnScope ["self", "other"] ["self", "other"] (defScope s_Calendar___eq__) := ⟨rfl, rfl, rfl, by decide +kernel, rfl, by decide +kernel, by decide +kernel⟩
theorem ok_Calendar___eq__ (T : Txt K mg FA) : FnOk P w K mg base CX0 1 FA.a_Calendar___eq__ FA.d_Calendar___eq__ ["self", "other"] (spD K 2 R_Calendar___eq__) :=
  fnD T.Calendar___eq__.fn sc_Calendar___eq__ fun cdv A outer s H E hr =>
  (ss_one (s_ret [0, 1] (d_and (d_isiO T.C_Calendar T.I_Calendar rfl rfl T.b_isinstance rfl (dv 1)) (d_one (d_eq hr.units (d_slot T.C_Calendar T.S_Calendar_its_telling (dv 0)) (d_slot T.C_Calendar T.S_Calendar_its_telling (dv 1)))))))
theorem sc_Calendar_within : FnScope ["self", "other", "early", "start", "period", "rests"] ["self", "other"] (defScope s_Calendar_within) := ⟨rfl, rfl, rfl, by decide +kernel, rfl, by decide +kernel, by decide +kernel⟩
theorem ok_Calendar_within (T : Txt K mg FA) : FnOk P w K mg base CX0 3 FA.a_Calendar_within FA.d_Calendar_within ["self", "other"] (spD K 2 R_Calendar_within) :=
  fnD T.Calendar_within.fn sc_Calendar_within fun cdv A outer s H E hr =>
  (ss_cons (s_unp (bs := (bTup 4 (bCons (bName 2) (bCons (bName 3) (bCons (bName 4) (bCons (bName 5) bNil)))))) [0, 1] (d_call (ok_joined T) (hr.mono (by decide)) rfl T.joined.gl T.joined.fn.kp T.joined.bd (da_cons (d_slot T.C_Calendar T.S_Calendar_its_telling (dv 0)) (da_cons (d_slot T.C_Calendar T.S_Calendar_its_telling (dv 1)) (da_cons (d_str [48, 48, 49, 48]) da_nil))) (ar_cons (ar_cons (ar_cons ar_nil)))) (pg_tup (by rfl) (pgs_cons (pg_name (i := 2) sc_Calendar_within.nd rfl (by first | exact Or.inl rfl | exact Or.inr rfl)) (pgs_cons (pg_name (i := 3) sc_Calendar_within.nd rfl (by first | exact Or.inl rfl | exact Or.inr rfl)) (pgs_cons (pg_name (i := 4) sc_Calendar_within.nd rfl (by first | exact Or.inl rfl | exact Or.inr rfl)) (pgs_cons (pg_name (i := 5) sc_Calendar_within.nd rfl (by first | exact Or.inl rfl | exact Or.inr rfl)) pgs_nil))))) (tg_tup 4 (tgs_cons (tg_name 2) (tgs_cons (tg_name 3) (tgs_cons (tg_name 4) (tgs_cons (tg_name 5) tgs_nil))))))
  (ss_one (s_ret [2, 5] (d_and (d_eq hr.units (dv 2) (d_n (dn_lst da_nil))) (d_one (d_eq hr.units (dv 5) (d_n (dn_lst da_nil))))))))
theorem sc__law_long : FnScope ["_law_bag_here"] ["_law_bag_here"] (defScope s__law_long) := ⟨rfl, rfl, rfl, by decide +kernel, rfl, by decide +kernel, by decide +kernel⟩
theorem ok__law_long (T : Txt K mg FA) : FnOk P w K mg base CX0 2 FA.a__law_long FA.d__law_long ["_law_bag_here"] (spD K 1 R__law_long) :=
  fnD T._law_long.fn sc__law_long fun cdv A outer s H E hr =>
  (ss_cons (s_if [0] (t_eq hr.units (d_call (ok__law_take T) (hr.mono (by decide)) rfl T._law_take.gl T._law_take.fn.kp T._law_take.bd (da_cons (dv 0) (da_cons d_int da_nil)) (ar_cons (ar_cons ar_nil))) d_int)
  (ss_one (s_ret [0] (d_call (ok__law_take T) (hr.mono (by decide)) rfl T._law_take.gl T._law_take.fn.kp T._law_take.bd (da_cons (dv 0) (da_cons d_int da_nil)) (ar_cons (ar_cons ar_nil)))))
  ss_nil)
  (ss_one (s_ret [0] (d_add (d_cint rfl T.b_int (da_cons (d_add (d_str [49]) (d_mul (d_str [48]) (d_call (ok__law_take T) (hr.mono (by decide)) rfl T._law_take.gl T._law_take.fn.kp T._law_take.bd (da_cons (dv 0) (da_cons d_int da_nil)) (ar_cons (ar_cons ar_nil))))) da_nil)) (d_call (ok__law_take T) (hr.mono (by decide)) rfl T._law_take.gl T._law_take.fn.kp T._law_take.bd (da_cons (dv 0) (da_cons d_int da_nil)) (ar_cons (ar_cons ar_nil)))))))
theorem sc_count_rest : FnScope ["start", "number", "period", "rest", "first"] ["start", "number", "period", "rest"] (defScope s_count_rest) := ⟨rfl, rfl, rfl, by decide +kernel, rfl, by decide +kernel, by decide +kernel⟩
theorem ok_count_rest (T : Txt K mg FA) : FnOk P w K mg base CX0 1 FA.a_count_rest FA.d_count_rest ["start", "number", "period", "rest"] (spD K 4 R_count_rest) :=
  fnD T.count_rest.fn sc_count_rest fun cdv A outer s H E hr =>
  (ss_cons (s_set 4 [0, 2, 3] sc_count_rest.nd rfl (by first | exact Or.inl rfl | exact Or.inr rfl) (d_add (dv 0) (d_mod (d_sub (dv 3) (dv 0)) (dv 2))))
  (ss_one (s_ret [1, 2, 4] (d_if (t_ge (dv 4) (dv 1)) d_int (d_add (d_div (d_sub (d_sub (dv 1) d_int) (dv 4)) (dv 2)) d_int)))))
theorem sc_Calendar_many_below : FnScope ["self", "number", "found", "early", "start", "period", "rests", "one", "rest"] ["self", "number"] (defScope s_Calendar_many_below) := ⟨rfl, rfl, rfl, by decide +kernel, rfl, by decide +kernel, by decide +kernel⟩
theorem ok_Calendar_many_below (T : Txt K mg FA) : FnOk P w K mg base CX0 2 FA.a_Calendar_many_below FA.d_Calendar_many_below ["self", "number"] (spD K 2 R_Calendar_many_below) :=
  fnD T.Calendar_many_below.fn sc_Calendar_many_below fun cdv A outer s H E hr =>
  (ss_cons (s_unp (bs := (bTup 4 (bCons (bName 3) (bCons (bName 4) (bCons (bName 5) (bCons (bName 6) bNil)))))) [0] (d_slot T.C_Calendar T.S_Calendar_its_telling (dv 0)) (pg_tup (by rfl) (pgs_cons (pg_name (i := 3) sc_Calendar_many_below.nd rfl (by first | exact Or.inl rfl | exact Or.inr rfl)) (pgs_cons (pg_name (i := 4) sc_Calendar_many_below.nd rfl (by first | exact Or.inl rfl | exact Or.inr rfl)) (pgs_cons (pg_name (i := 5) sc_Calendar_many_below.nd rfl (by first | exact Or.inl rfl | exact Or.inr rfl)) (pgs_cons (pg_name (i := 6) sc_Calendar_many_below.nd rfl (by first | exact Or.inl rfl | exact Or.inr rfl)) pgs_nil))))) (tg_tup 4 (tgs_cons (tg_name 3) (tgs_cons (tg_name 4) (tgs_cons (tg_name 5) (tgs_cons (tg_name 6) tgs_nil))))))
  (ss_cons (s_set 2 [1, 3, 7] sc_Calendar_many_below.nd rfl (by first | exact Or.inl rfl | exact Or.inr rfl) (d_lenG rfl T.b_len (da_cons (d_n (dn_lc (own := [("one", 7)]) rfl sc_Calendar_many_below.nd (di_any (dv 3)) (blkOk_by (N := ["self", "number", "found", "early", "start", "period", "rests", "one", "rest"]) (sc := defScope s_Calendar_many_below) (by decide +kernel)) (tg_name 7) (by decide) (fun _ _ _ _ _ => (pg_name (i := 7) sc_Calendar_many_below.nd rfl (by first | exact Or.inl rfl | exact Or.inr rfl))) (fun _ _ _ _ _ => (dts_one (t_lt (dv 7) (dv 1)))) (fun _ _ _ _ _ => (dv 7)))) da_nil)))
  (ss_cons (s_if [1, 4] (t_le (dv 1) (dv 4))
  (ss_one (s_ret [2] (dv 2)))
  ss_nil)
  (ss_one (s_ret [1, 2, 4, 5, 6, 8] (d_add (dv 2) (d_sum rfl rfl T.b_sum (da_cons (d_n (dn_lc (own := [("rest", 8)]) rfl sc_Calendar_many_below.nd (di_any (dv 6)) (blkOk_by (N := ["self", "number", "found", "early", "start", "period", "rests", "one", "rest"]) (sc := defScope s_Calendar_many_below) (by decide +kernel)) (tg_name 8) (by decide) (fun _ _ _ _ _ => (pg_name (i := 8) sc_Calendar_many_below.nd rfl (by first | exact Or.inl rfl | exact Or.inr rfl))) (fun _ _ _ _ _ => dts_nil) (fun _ _ _ _ _ => (d_call (ok_count_rest T) (hr.mono (by decide)) rfl T.count_rest.gl T.count_rest.fn.kp T.count_rest.bd (da_cons (dv 4) (da_cons (dv 1) (da_cons (dv 5) (da_cons (dv 8) da_nil)))) (ar_cons (ar_cons (ar_cons (ar_cons ar_nil)))))))) da_nil))))))))
theorem sc_Calendar_least_from : FnScope ["self", "number", "one", "found", "early", "start", "period", "rests"] ["self", "number"] (defScope s_Calendar_least_from) := ⟨rfl, rfl, rfl, by decide +kernel, rfl, by decide +kernel, by decide +kernel⟩
theorem ok_Calendar_least_from (T : Txt K mg FA) : FnOk P w K mg base CX0 1 FA.a_Calendar_least_from FA.d_Calendar_least_from ["self", "number"] (spD K 2 R_Calendar_least_from) :=
  fnD T.Calendar_least_from.fn sc_Calendar_least_from fun cdv A outer s H E hr =>
  (ss_cons (s_unp (bs := (bTup 4 (bCons (bName 4) (bCons (bName 5) (bCons (bName 6) (bCons (bName 7) bNil)))))) [0] (d_slot T.C_Calendar T.S_Calendar_its_telling (dv 0)) (pg_tup (by rfl) (pgs_cons (pg_name (i := 4) sc_Calendar_least_from.nd rfl (by first | exact Or.inl rfl | exact Or.inr rfl)) (pgs_cons (pg_name (i := 5) sc_Calendar_least_from.nd rfl (by first | exact Or.inl rfl | exact Or.inr rfl)) (pgs_cons (pg_name (i := 6) sc_Calendar_least_from.nd rfl (by first | exact Or.inl rfl | exact Or.inr rfl)) (pgs_cons (pg_name (i := 7) sc_Calendar_least_from.nd rfl (by first | exact Or.inl rfl | exact Or.inr rfl)) pgs_nil))))) (tg_tup 4 (tgs_cons (tg_name 4) (tgs_cons (tg_name 5) (tgs_cons (tg_name 6) (tgs_cons (tg_name 7) tgs_nil))))))
  (ss_cons (s_for [4] PassesOwn.never rfl (di_any (dv 4)) (pg_name (i := 2) sc_Calendar_least_from.nd rfl (by first | exact Or.inl rfl | exact Or.inr rfl)) (tg_name 2)
  (ss_one (s_if [1, 2] (t_ge (dv 2) (dv 1))
  (ss_one (s_ret [2] (dv 2)))
  ss_nil)))
  (ss_cons (s_if [7] (t_eq hr.units (dv 7) (d_n (dn_lst da_nil)))
  (ss_one (s_ret [] d_non))
  ss_nil)
  (ss_cons (s_set 3 [1, 5] sc_Calendar_least_from.nd rfl (by first | exact Or.inl rfl | exact Or.inr rfl) (d_max rfl rfl T.b_max (da_cons (dv 1) (da_cons (dv 5) da_nil))))
  (ss_cons (s_while 1000000 [3, 6, 7] PassesOwn.never (t_notInF hr.units (d_mod (dv 3) (dv 6)) (dv 7))
  (ss_one (s_augAdd 3 [] sc_Calendar_least_from.nd rfl (by first | exact Or.inl rfl | exact Or.inr rfl) d_int)))
  (ss_one (s_ret [3] (dv 3))))))))
theorem sc_Calendar_gap_from : FnScope ["self", "number"] ["self", "number"] (defScope s_Calendar_gap_from) := ⟨rfl, rfl, rfl, by decide +kernel, rfl, by decide +kernel, by decide +kernel⟩
theorem ok_Calendar_gap_from (T : Txt K mg FA) : FnOk P w K mg base CX0 6 FA.a_Calendar_gap_from FA.d_Calendar_gap_from ["self", "number"] (spD K 2 R_Calendar_gap_from) :=
  fnD T.Calendar_gap_from.fn sc_Calendar_gap_from fun cdv A outer s H E hr =>
  (ss_one (s_ret [0, 1] (d_meth T.C_Calendar T.Calendar_least_from.me (ok_Calendar_least_from T) T.Calendar_least_from.bd (hr.mono (by decide)) (d_invO T.C_Calendar T.Calendar___invert__.me (ok_Calendar___invert__ T) T.Calendar___invert__.bd (hr.mono (by decide)) (dv 0)) (da_cons (dv 1) da_nil) (ar_cons ar_nil))))
theorem sc_Calendar___contains__ : FnScope ["self", "thing"] ["self", "thing"] (defScope s_Calendar___contains__) := ⟨rfl, rfl, rfl, by decide +kernel, rfl, by decide +kernel, by decide +kernel⟩
theorem ok_Calendar___contains__ (T : Txt K mg FA) : FnOk P w K mg base CX0 3 FA.a_Calendar___contains__ FA.d_Calendar___contains__ ["self", "thing"] (spD K 2 R_Calendar___contains__) :=
  fnD T.Calendar___contains__.fn sc_Calendar___contains__ fun cdv A outer s H E hr =>
  (ss_one (s_ret [0, 1] (d_and (d_call (ok_is_number T) (hr.mono (by decide)) rfl T.is_number.gl T.is_number.fn.kp T.is_number.bd (da_cons (dv 1) da_nil) (ar_cons ar_nil)) (d_one (d_call (ok_is_size T) (hr.mono (by decide)) rfl T.is_size.gl T.is_size.fn.kp T.is_size.bd (da_cons (d_slot T.C_Calendar T.S_Calendar_its_telling (dv 0)) (da_cons (dv 1) da_nil)) (ar_cons (ar_cons ar_nil)))))))
theorem sc_Calendar_nth : FnScope ["self", "place", "first", "left", "early", "start", "period", "rests", "number"] ["self", "place"] (defScope s_Calendar_nth) := ⟨rfl, rfl, rfl, by decide +kernel, rfl, by decide +kernel, by decide +kernel⟩
theorem ok_Calendar_nth (T : Txt K mg FA) : FnOk P w K mg base CX0 1 FA.a_Calendar_nth FA.d_Calendar_nth ["self", "place"] (spD K 2 R_Calendar_nth) :=
  fnD T.Calendar_nth.fn sc_Calendar_nth fun cdv A outer s H E hr =>
  (ss_cons (s_unp (bs := (bTup 4 (bCons (bName 4) (bCons (bName 5) (bCons (bName 6) (bCons (bName 7) bNil)))))) [0] (d_slot T.C_Calendar T.S_Calendar_its_telling (dv 0)) (pg_tup (by rfl) (pgs_cons (pg_name (i := 4) sc_Calendar_nth.nd rfl (by first | exact Or.inl rfl | exact Or.inr rfl)) (pgs_cons (pg_name (i := 5) sc_Calendar_nth.nd rfl (by first | exact Or.inl rfl | exact Or.inr rfl)) (pgs_cons (pg_name (i := 6) sc_Calendar_nth.nd rfl (by first | exact Or.inl rfl | exact Or.inr rfl)) (pgs_cons (pg_name (i := 7) sc_Calendar_nth.nd rfl (by first | exact Or.inl rfl | exact Or.inr rfl)) pgs_nil))))) (tg_tup 4 (tgs_cons (tg_name 4) (tgs_cons (tg_name 5) (tgs_cons (tg_name 6) (tgs_cons (tg_name 7) tgs_nil))))))
  (ss_cons (s_if [1, 4] (t_lt (dv 1) (d_lenG rfl T.b_len (da_cons (dv 4) da_nil)))
  (ss_one (s_ret [1, 4] (d_ixF hr.units (dv 4) (dv 1))))
  ss_nil)
  (ss_cons (s_if [7] (t_eq hr.units (dv 7) (d_n (dn_lst da_nil)))
  (ss_one (s_ret [] d_non))
  ss_nil)
  (ss_cons (s_setLc (own := [("number", 8)]) 2 [5, 6, 7, 8] rfl sc_Calendar_nth.nd rfl rfl (sw_true rfl rfl rfl (by decide +kernel)) (di_r (dr_range2 rfl T.b_range (da_cons (dv 5) (da_cons (d_add (dv 5) (dv 6)) da_nil)))) (blkOk_by (N := ["self", "place", "first", "left", "early", "start", "period", "rests", "number"]) (sc := defScope s_Calendar_nth) (by decide +kernel)) (tg_name 8) (by decide) (fun _ _ _ _ _ => (pg_name (i := 8) sc_Calendar_nth.nd rfl (by first | exact Or.inl rfl | exact Or.inr rfl))) (fun _ _ _ _ _ => (dts_one (t_inF hr.units (d_mod (dv 8) (dv 6)) (dv 7)))) (fun _ _ _ _ _ => (dv 8)))
  (ss_cons (s_set 3 [1, 4] sc_Calendar_nth.nd rfl (by first | exact Or.inl rfl | exact Or.inr rfl) (d_sub (dv 1) (d_lenG rfl T.b_len (da_cons (dv 4) da_nil))))
  (ss_one (s_ret [2, 3, 6] (d_add (d_ixF hr.units (dv 2) (d_mod (dv 3) (d_lenG rfl T.b_len (da_cons (dv 2) da_nil)))) (d_mul (d_div (dv 3) (d_lenG rfl T.b_len (da_cons (dv 2) da_nil))) (dv 6))))))))))
def F__law_walk_right : Env2 → M Out :=
  (seqM (parM 3 4 [0, 1] (aC (eMeth 2 R_Calendar_least_from (rdEnv 0) (aC (rdEnv 1) aN)) (aC (eMeth 2 R_Calendar_gap_from (rdEnv 0) (aC (rdEnv 1) aN)) aN)))
  (seqM (setM 2 [0, 1] (eMeth 2 R_Calendar_many_below (rdEnv 0) (aC (rdEnv 1) aN)))
  (seqM (ifM [1, 3, 4] (tOrM (tAndM (t2 (isD false) (rdEnv 3) (cst .non)) (t2 (eqD true) (rdEnv 4) (rdEnv 1))) (tAndM (t2 (isD false) (rdEnv 4) (cst .non)) (t2 (eqD true) (rdEnv 3) (rdEnv 1))))
  (retM [] (cst (.bl false)))
  sNil)
  (seqM (ifM [1, 3, 4] (tAndM (t2 (isD true) (rdEnv 3) (cst .non)) (tAndM (t2 (isD true) (rdEnv 4) (cst .non)) (tOrM (t2 (eqD true) (eCall minG (aC (rdEnv 3) (aC (rdEnv 4) aN))) (rdEnv 1)) (t2 (eqD false) (rdEnv 3) (rdEnv 4)))))
  (retM [] (cst (.bl false)))
  sNil)
  (seqM (ifM [0, 2, 3] (tAndM (t2 (isD true) (rdEnv 3) (cst .non)) (tOrM (t2 (inO true 2 R_Calendar___contains__) (rdEnv 3) (rdEnv 0)) (t2 (eqD true) (eMeth 2 R_Calendar_many_below (rdEnv 0) (aC (rdEnv 3) aN)) (rdEnv 2))))
  (retM [] (cst (.bl false)))
  sNil)
  (seqM (ifM [0, 2, 3] (tAndM (t2 (isD true) (rdEnv 3) (cst .non)) (t2 (eqD true) (eMeth 2 R_Calendar_nth (rdEnv 0) (aC (rdEnv 2) aN)) (rdEnv 3)))
  (retM [] (cst (.bl false)))
  sNil)
  (seqM (ifM [0, 1, 4] (tAndM (t2 (isD true) (rdEnv 4) (cst .non)) (tOrM (t2 (inO false 2 R_Calendar___contains__) (rdEnv 4) (rdEnv 0)) (t2 (eqD true) (eMeth 2 R_Calendar_least_from (e1 (propD 2 R_Calendar___invert__) (rdEnv 0)) (aC (rdEnv 1) aN)) (rdEnv 4))))
  (retM [] (cst (.bl false)))
  sNil)
  (retM [0, 1, 2, 3] (eAnd (e2 (eqD false) (e2 (inO false 2 R_Calendar___contains__) (rdEnv 1) (rdEnv 0)) (e2 (eqD false) (rdEnv 3) (rdEnv 1))) (e2 (eqD false) (e2 addD (rdEnv 2) (eMeth 2 R_Calendar_many_below (e1 (propD 2 R_Calendar___invert__) (rdEnv 0)) (aC (rdEnv 1) aN))) (e2 subD (rdEnv 1) (cst (.int 1)))))))))))))
def R__law_walk_right : List D → M D := runD 5 F__law_walk_right
theorem sc__law_walk_right : FnScope ["_law_one", "_law_number", "_law_many", "_law_size", "_law_gap"] ["_law_one", "_law_number"] (defScope s__law_walk_right) := ⟨rfl, rfl, rfl, by decide +kernel, rfl, by decide +kernel, by decide +kernel⟩
theorem ok__law_walk_right (T : Txt K mg FA) : FnOk P w K mg base CX0 7 FA.a__law_walk_right FA.d__law_walk_right ["_law_one", "_law_number"] (spD K 2 R__law_walk_right) :=
  fnD T._law_walk_right.fn sc__law_walk_right fun cdv A outer s H E hr =>
  (ss_cons (s_par 3 4 [0, 1] rfl sc__law_walk_right.nd rfl rfl (by decide) rfl rfl (da_cons (d_meth T.C_Calendar T.Calendar_least_from.me (ok_Calendar_least_from T) T.Calendar_least_from.bd (hr.mono (by decide)) (dv 0) (da_cons (dv 1) da_nil) (ar_cons ar_nil)) (da_cons (d_meth T.C_Calendar T.Calendar_gap_from.me (ok_Calendar_gap_from T) T.Calendar_gap_from.bd (hr.mono (by decide)) (dv 0) (da_cons (dv 1) da_nil) (ar_cons ar_nil)) da_nil)))
  (ss_cons (s_set 2 [0, 1] sc__law_walk_right.nd rfl (by first | exact Or.inl rfl | exact Or.inr rfl) (d_meth T.C_Calendar T.Calendar_many_below.me (ok_Calendar_many_below T) T.Calendar_many_below.bd (hr.mono (by decide)) (dv 0) (da_cons (dv 1) da_nil) (ar_cons ar_nil)))
  (ss_cons (s_if [1, 3, 4] (t_w (w_or (t_w (w_and (t_is (dv 3) d_non) (w_and1 (t_ne hr.units (dv 4) (dv 1))))) (w_or1 (t_w (w_and (t_is (dv 4) d_non) (w_and1 (t_ne hr.units (dv 3) (dv 1))))))))
  (ss_one (s_ret [] d_bl))
  ss_nil)
  (ss_cons (s_if [1, 3, 4] (t_w (w_and (t_isnt (dv 3) d_non) (w_and (t_isnt (dv 4) d_non) (w_and1 (t_w (w_or (t_ne hr.units (d_minG rfl rfl T.b_min (da_cons (dv 3) (da_cons (dv 4) da_nil))) (dv 1)) (w_or1 (t_eq hr.units (dv 3) (dv 4)))))))))
  (ss_one (s_ret [] d_bl))
  ss_nil)
  (ss_cons (s_if [0, 2, 3] (t_w (w_and (t_isnt (dv 3) d_non) (w_and1 (t_w (w_or (t_ninO T.C_Calendar T.Calendar___contains__.me (ok_Calendar___contains__ T) T.Calendar___contains__.bd (hr.mono (by decide)) (dv 3) (dv 0)) (w_or1 (t_ne hr.units (d_meth T.C_Calendar T.Calendar_many_below.me (ok_Calendar_many_below T) T.Calendar_many_below.bd (hr.mono (by decide)) (dv 0) (da_cons (dv 3) da_nil) (ar_cons ar_nil)) (dv 2))))))))
  (ss_one (s_ret [] d_bl))
  ss_nil)
  (ss_cons (s_if [0, 2, 3] (t_w (w_and (t_isnt (dv 3) d_non) (w_and1 (t_ne hr.units (d_meth T.C_Calendar T.Calendar_nth.me (ok_Calendar_nth T) T.Calendar_nth.bd (hr.mono (by decide)) (dv 0) (da_cons (dv 2) da_nil) (ar_cons ar_nil)) (dv 3)))))
  (ss_one (s_ret [] d_bl))
  ss_nil)
  (ss_cons (s_if [0, 1, 4] (t_w (w_and (t_isnt (dv 4) d_non) (w_and1 (t_w (w_or (t_inO T.C_Calendar T.Calendar___contains__.me (ok_Calendar___contains__ T) T.Calendar___contains__.bd (hr.mono (by decide)) (dv 4) (dv 0)) (w_or1 (t_ne hr.units (d_meth T.C_Calendar T.Calendar_least_from.me (ok_Calendar_least_from T) T.Calendar_least_from.bd (hr.mono (by decide)) (d_invO T.C_Calendar T.Calendar___invert__.me (ok_Calendar___invert__ T) T.Calendar___invert__.bd (hr.mono (by decide)) (dv 0)) (da_cons (dv 1) da_nil) (ar_cons ar_nil)) (dv 4))))))))
  (ss_one (s_ret [] d_bl))
  ss_nil)
  (ss_one (s_ret [0, 1, 2, 3] (d_and (d_eq hr.units (d_inO T.C_Calendar T.Calendar___contains__.me (ok_Calendar___contains__ T) T.Calendar___contains__.bd (hr.mono (by decide)) (dv 1) (dv 0)) (d_eq hr.units (dv 3) (dv 1))) (d_one (d_eq hr.units (d_add (dv 2) (d_meth T.C_Calendar T.Calendar_many_below.me (ok_Calendar_many_below T) T.Calendar_many_below.bd (hr.mono (by decide)) (d_invO T.C_Calendar T.Calendar___invert__.me (ok_Calendar___invert__ T) T.Calendar___invert__.bd (hr.mono (by decide)) (dv 0)) (da_cons (dv 1) da_nil) (ar_cons ar_nil))) (d_sub (dv 1) d_int)))))))))))))
def F_law : Env2 → M Out :=
  (seqM (forRM [] (iRg1 (aC (cst (.int 3)) aN)) (bName 2)
  (seqM (unpM (bLst 3 (bCons (bName 5) (bCons (bName 6) (bCons (bName 7) bNil)))) [1] (eN (nLc [9] (iRg1 (aC (cst (.int 3)) aN)) (bName 9) cT (eCall R__law_made (aC (eN (nCall R__law_calendar (aC (rdEnv 1) aN))) aN)))))
  (seqM (ifM [1] (t2 (eqD false) (eCall R__law_take (aC (rdEnv 1) (aC (cst (.int 3)) aN))) (cst (.int 0)))
  (setM 7 [1] (eCall R_Calendar_of_steps (aC (eN (nLst (aC (e2 addD (cst (.int 9)) (eCall R__law_take (aC (rdEnv 1) (aC (cst (.int 9)) aN)))) (aC (e2 addD (cst (.int 11)) (eCall R__law_take (aC (rdEnv 1) (aC (cst (.int 9)) aN)))) (aC (e2 addD (cst (.int 38)) (eCall R__law_take (aC (rdEnv 1) (aC (cst (.int 3)) aN)))) aN))))) aN)))
  sNil)
  (seqM (setNM 3 [5, 6, 7] (nLst (aC (eTup (aC (e1 (propD 2 R_Calendar___invert__) (e2 (eqC 2 R_Calendar___and__) (rdEnv 5) (rdEnv 6))) (aC (e2 (eqC 2 R_Calendar___or__) (e1 (propD 2 R_Calendar___invert__) (rdEnv 5)) (e1 (propD 2 R_Calendar___invert__) (rdEnv 6))) aN))) (aC (eTup (aC (e2 (eqC 2 R_Calendar___xor__) (rdEnv 5) (rdEnv 6)) (aC (e2 (eqC 2 R_Calendar___or__) (e2 (eqC 2 R_Calendar___and__) (rdEnv 5) (e1 (propD 2 R_Calendar___invert__) (rdEnv 6))) (e2 (eqC 2 R_Calendar___and__) (e1 (propD 2 R_Calendar___invert__) (rdEnv 5)) (rdEnv 6))) aN))) (aC (eTup (aC (e2 (eqC 2 R_Calendar___and__) (rdEnv 5) (e2 (eqC 2 R_Calendar___or__) (rdEnv 6) (rdEnv 7))) (aC (e2 (eqC 2 R_Calendar___or__) (e2 (eqC 2 R_Calendar___and__) (rdEnv 5) (rdEnv 6)) (e2 (eqC 2 R_Calendar___and__) (rdEnv 5) (rdEnv 7))) aN))) (aC (eTup (aC (e1 (propD 2 R_Calendar___invert__) (e1 (propD 2 R_Calendar___invert__) (rdEnv 5))) (aC (rdEnv 5) aN))) aN))))))
  (seqM (extM 3 [5, 6] (nLst (aC (eTup (aC (e2 (eqC 2 R_Calendar___xor__) (e2 (eqC 2 R_Calendar___xor__) (rdEnv 5) (rdEnv 6)) (rdEnv 6)) (aC (rdEnv 5) aN))) (aC (eTup (aC (e2 (eqC 2 R_Calendar___or__) (rdEnv 5) (rdEnv 5)) (aC (e2 (eqC 2 R_Calendar___and__) (rdEnv 5) (rdEnv 5)) aN))) (aC (eTup (aC (e2 (eqC 2 R_Calendar___xor__) (rdEnv 5) (rdEnv 5)) (aC (e2 (eqC 2 R_Calendar___and__) (rdEnv 5) (e1 (propD 2 R_Calendar___invert__) (rdEnv 5))) aN))) (aC (eTup (aC (eCall R__law_made (aC (eN (nCall R__law_telling (aC (rdEnv 5) aN))) aN)) (aC (rdEnv 5) aN))) (aC (eTup (aC (e2 (eqC 2 R_Calendar___or__) (rdEnv 5) (rdEnv 6)) (aC (e2 (eqC 2 R_Calendar___or__) (rdEnv 6) (rdEnv 5)) aN))) aN)))))))
  (seqM (ifM [3, 4, 10] (t2 (eqD true) (eN (nLc [4, 10] (iAny (rdEnv 3)) (bTup 2 (bCons (bName 4) (bCons (bName 10) bNil))) (tOrM (t2 (neC 2 R_Calendar___eq__) (rdEnv 4) (rdEnv 10)) (tNotM (t2 (eqC 2 R_Calendar___eq__) (rdEnv 4) (rdEnv 10)))) (cst (.int 1)))) (eN (nLst aN)))
  (retM [] (cst (.bl false)))
  sNil)
  (seqM (ifM [5, 6] (tOrM (t2 (isB true) (eMeth 2 R_Calendar_within (e2 (eqC 2 R_Calendar___and__) (rdEnv 5) (rdEnv 6)) (aC (rdEnv 5) aN)) (cst (.bl true))) (tOrM (t2 (isB true) (eMeth 2 R_Calendar_within (rdEnv 5) (aC (e2 (eqC 2 R_Calendar___or__) (rdEnv 5) (rdEnv 6)) aN)) (cst (.bl true))) (t2 (eqD true) (eMeth 2 R_Calendar_within (rdEnv 5) (aC (rdEnv 6) aN)) (e2 (eqC 2 R_Calendar___eq__) (e2 (eqC 2 R_Calendar___and__) (rdEnv 5) (rdEnv 6)) (rdEnv 5)))))
  (retM [] (cst (.bl false)))
  sNil)
  (seqM (ifM [5, 6] (tOrM (t2 (eqD true) (eMeth 2 R_Calendar_within (rdEnv 5) (aC (rdEnv 6) aN)) (eMeth 2 R_Calendar_within (e1 (propD 2 R_Calendar___invert__) (rdEnv 6)) (aC (e1 (propD 2 R_Calendar___invert__) (rdEnv 5)) aN))) (tAndM (tVal (eMeth 2 R_Calendar_within (rdEnv 5) (aC (rdEnv 6) aN))) (tAndM (tVal (eMeth 2 R_Calendar_within (rdEnv 6) (aC (rdEnv 5) aN))) (t2 (neC 2 R_Calendar___eq__) (rdEnv 5) (rdEnv 6)))))
  (retM [] (cst (.bl false)))
  sNil)
  (seqM (forA [5, 6, 7] (iAny (eTup (aC (rdEnv 5) (aC (e2 (eqC 2 R_Calendar___and__) (rdEnv 5) (rdEnv 6)) (aC (e1 (propD 2 R_Calendar___invert__) (rdEnv 7)) aN))))) (bName 4)
  (forA [1] (iAny (eTup (aC (cst (.int 1)) (aC (e2 addD (cst (.int 1)) (eCall R__law_take (aC (rdEnv 1) (aC (cst (.int 40)) aN)))) (aC (e2 addD (cst (.int 1)) (eCall R__law_long (aC (rdEnv 1) aN))) aN))))) (bName 8)
  (ifM [4, 8] (tNotM (tVal (eCall R__law_walk_right (aC (rdEnv 4) (aC (rdEnv 8) aN)))))
  (retM [] (cst (.bl false)))
  sNil)))
  (ifM [5] (t2 (eqD true) (eN (nCall R__law_telling (aC (rdEnv 5) aN))) (eN (nCall R__law_telling (aC (eCall R__law_made (aC (eN (nCall R__law_telling (aC (rdEnv 5) aN))) aN)) aN))))
  (retM [] (cst (.bl false)))
  sNil))))))))))
  (retM [] (cst (.bl true))))
theorem sc_law : FnScope ["_law_script", "_law_bag_here", "_law_turn", "_law_pairs", "_law_one", "_law_a", "_law_b", "_law_c", "_law_number", "_law_k", "_law_other"] ["_law_script"] (defScope s_law) := ⟨rfl, rfl, rfl, by decide +kernel, rfl, by decide +kernel, by decide +kernel⟩
theorem ok_law (T : Txt K mg FA) (hmath : ∀ (p : Addr), Tot p (F_law (env0 9 p)) fun o => o = .rt (.bl true)) : FnG P w K mg base 8 FA.a_law FA.d_law ["_law_script"] (spLaw K) :=
  fn_g T.law.fn sc_law (fun vs H Q E h => by obtain ⟨a, ns, rfl, _⟩ := h; rfl) fun cdv A outer s H vs Q hr hgd h => ⟨_, pss_cons (ps_set (i := 1) sc_law.nd rfl (by first | exact Or.inl rfl | exact Or.inr rfl) (pe_call (ok__law_bag T) (hr.mono (by decide)) rfl T._law_bag.gl T._law_bag.fn.kp T._law_bag.bd .nil pass0 (da_cons (dv 0) da_nil)))
  (ss_cons (s_forR [] PassesOwn.never rfl (dr_range1 rfl T.b_range (da_cons d_int da_nil)) (pg_name (i := 2) sc_law.nd rfl (by first | exact Or.inl rfl | exact Or.inr rfl)) (tg_name 2)
  (ss_cons (s_unp (bs := (bLst 3 (bCons (bName 5) (bCons (bName 6) (bCons (bName 7) bNil))))) [1] (d_n (dn_lc (own := [("_law_k", 9)]) rfl sc_law.nd (di_r (dr_range1 rfl T.b_range (da_cons d_int da_nil))) (blkOk_by (N := ["_law_script", "_law_bag_here", "_law_turn", "_law_pairs", "_law_one", "_law_a", "_law_b", "_law_c", "_law_number", "_law_k", "_law_other"]) (sc := defScope s_law) (by decide +kernel)) (tg_name 9) (by decide) (fun _ _ _ _ _ => (pg_name (i := 9) sc_law.nd rfl (by first | exact Or.inl rfl | exact Or.inr rfl))) (fun _ _ _ _ _ => dts_nil) (fun _ _ _ _ _ => (d_call (ok__law_made T) (hr.mono (by decide)) rfl T._law_made.gl T._law_made.fn.kp T._law_made.bd (da_cons (d_n (dn_call (ok__law_calendar T) (hr.mono (by decide)) rfl T._law_calendar.gl T._law_calendar.fn.kp T._law_calendar.bd (da_cons (dv 1) da_nil) (ar_cons ar_nil))) da_nil) (ar_cons ar_nil))))) (pg_unl (by rfl) (pgs_cons (pg_name (i := 5) sc_law.nd rfl (by first | exact Or.inl rfl | exact Or.inr rfl)) (pgs_cons (pg_name (i := 6) sc_law.nd rfl (by first | exact Or.inl rfl | exact Or.inr rfl)) (pgs_cons (pg_name (i := 7) sc_law.nd rfl (by first | exact Or.inl rfl | exact Or.inr rfl)) pgs_nil)))) (tg_lst 3 (tgs_cons (tg_name 5) (tgs_cons (tg_name 6) (tgs_cons (tg_name 7) tgs_nil)))))
  (ss_cons (s_if [1] (t_eq hr.units (d_call (ok__law_take T) (hr.mono (by decide)) rfl T._law_take.gl T._law_take.fn.kp T._law_take.bd (da_cons (dv 1) (da_cons d_int da_nil)) (ar_cons (ar_cons ar_nil))) d_int)
  (ss_one (s_set 7 [1] sc_law.nd rfl (by first | exact Or.inl rfl | exact Or.inr rfl) (d_smeth T.C_Calendar T.Calendar_of_steps.sm (ok_Calendar_of_steps T) T.Calendar_of_steps.bd (hr.mono (by decide)) rfl rfl (da_cons (d_n (dn_lst (da_cons (d_add d_int (d_call (ok__law_take T) (hr.mono (by decide)) rfl T._law_take.gl T._law_take.fn.kp T._law_take.bd (da_cons (dv 1) (da_cons d_int da_nil)) (ar_cons (ar_cons ar_nil)))) (da_cons (d_add d_int (d_call (ok__law_take T) (hr.mono (by decide)) rfl T._law_take.gl T._law_take.fn.kp T._law_take.bd (da_cons (dv 1) (da_cons d_int da_nil)) (ar_cons (ar_cons ar_nil)))) (da_cons (d_add d_int (d_call (ok__law_take T) (hr.mono (by decide)) rfl T._law_take.gl T._law_take.fn.kp T._law_take.bd (da_cons (dv 1) (da_cons d_int da_nil)) (ar_cons (ar_cons ar_nil)))) da_nil))))) da_nil) (ar_cons ar_nil))))
  ss_nil)
  (ss_cons (s_setN 3 [5, 6, 7] sc_law.nd rfl (by first | exact Or.inl rfl | exact Or.inr rfl) (dn_lst (da_cons (d_tup (da_cons (d_invO T.C_Calendar T.Calendar___invert__.me (ok_Calendar___invert__ T) T.Calendar___invert__.bd (hr.mono (by decide)) (d_binO rfl T.C_Calendar T.F_Calendar T.Calendar___and__.me (ok_Calendar___and__ T) T.Calendar___and__.bd (hr.mono (by decide)) (dv 5) (dv 6))) (da_cons (d_binO rfl T.C_Calendar T.F_Calendar T.Calendar___or__.me (ok_Calendar___or__ T) T.Calendar___or__.bd (hr.mono (by decide)) (d_invO T.C_Calendar T.Calendar___invert__.me (ok_Calendar___invert__ T) T.Calendar___invert__.bd (hr.mono (by decide)) (dv 5)) (d_invO T.C_Calendar T.Calendar___invert__.me (ok_Calendar___invert__ T) T.Calendar___invert__.bd (hr.mono (by decide)) (dv 6))) da_nil))) (da_cons (d_tup (da_cons (d_binO rfl T.C_Calendar T.F_Calendar T.Calendar___xor__.me (ok_Calendar___xor__ T) T.Calendar___xor__.bd (hr.mono (by decide)) (dv 5) (dv 6)) (da_cons (d_binO rfl T.C_Calendar T.F_Calendar T.Calendar___or__.me (ok_Calendar___or__ T) T.Calendar___or__.bd (hr.mono (by decide)) (d_binO rfl T.C_Calendar T.F_Calendar T.Calendar___and__.me (ok_Calendar___and__ T) T.Calendar___and__.bd (hr.mono (by decide)) (dv 5) (d_invO T.C_Calendar T.Calendar___invert__.me (ok_Calendar___invert__ T) T.Calendar___invert__.bd (hr.mono (by decide)) (dv 6))) (d_binO rfl T.C_Calendar T.F_Calendar T.Calendar___and__.me (ok_Calendar___and__ T) T.Calendar___and__.bd (hr.mono (by decide)) (d_invO T.C_Calendar T.Calendar___invert__.me (ok_Calendar___invert__ T) T.Calendar___invert__.bd (hr.mono (by decide)) (dv 5)) (dv 6))) da_nil))) (da_cons (d_tup (da_cons (d_binO rfl T.C_Calendar T.F_Calendar T.Calendar___and__.me (ok_Calendar___and__ T) T.Calendar___and__.bd (hr.mono (by decide)) (dv 5) (d_binO rfl T.C_Calendar T.F_Calendar T.Calendar___or__.me (ok_Calendar___or__ T) T.Calendar___or__.bd (hr.mono (by decide)) (dv 6) (dv 7))) (da_cons (d_binO rfl T.C_Calendar T.F_Calendar T.Calendar___or__.me (ok_Calendar___or__ T) T.Calendar___or__.bd (hr.mono (by decide)) (d_binO rfl T.C_Calendar T.F_Calendar T.Calendar___and__.me (ok_Calendar___and__ T) T.Calendar___and__.bd (hr.mono (by decide)) (dv 5) (dv 6)) (d_binO rfl T.C_Calendar T.F_Calendar T.Calendar___and__.me (ok_Calendar___and__ T) T.Calendar___and__.bd (hr.mono (by decide)) (dv 5) (dv 7))) da_nil))) (da_cons (d_tup (da_cons (d_invO T.C_Calendar T.Calendar___invert__.me (ok_Calendar___invert__ T) T.Calendar___invert__.bd (hr.mono (by decide)) (d_invO T.C_Calendar T.Calendar___invert__.me (ok_Calendar___invert__ T) T.Calendar___invert__.bd (hr.mono (by decide)) (dv 5))) (da_cons (dv 5) da_nil))) da_nil))))))
  (ss_cons (s_augExt 3 [5, 6] sc_law.nd rfl (by first | exact Or.inl rfl | exact Or.inr rfl) (dn_lst (da_cons (d_tup (da_cons (d_binO rfl T.C_Calendar T.F_Calendar T.Calendar___xor__.me (ok_Calendar___xor__ T) T.Calendar___xor__.bd (hr.mono (by decide)) (d_binO rfl T.C_Calendar T.F_Calendar T.Calendar___xor__.me (ok_Calendar___xor__ T) T.Calendar___xor__.bd (hr.mono (by decide)) (dv 5) (dv 6)) (dv 6)) (da_cons (dv 5) da_nil))) (da_cons (d_tup (da_cons (d_binO rfl T.C_Calendar T.F_Calendar T.Calendar___or__.me (ok_Calendar___or__ T) T.Calendar___or__.bd (hr.mono (by decide)) (dv 5) (dv 5)) (da_cons (d_binO rfl T.C_Calendar T.F_Calendar T.Calendar___and__.me (ok_Calendar___and__ T) T.Calendar___and__.bd (hr.mono (by decide)) (dv 5) (dv 5)) da_nil))) (da_cons (d_tup (da_cons (d_binO rfl T.C_Calendar T.F_Calendar T.Calendar___xor__.me (ok_Calendar___xor__ T) T.Calendar___xor__.bd (hr.mono (by decide)) (dv 5) (dv 5)) (da_cons (d_binO rfl T.C_Calendar T.F_Calendar T.Calendar___and__.me (ok_Calendar___and__ T) T.Calendar___and__.bd (hr.mono (by decide)) (dv 5) (d_invO T.C_Calendar T.Calendar___invert__.me (ok_Calendar___invert__ T) T.Calendar___invert__.bd (hr.mono (by decide)) (dv 5))) da_nil))) (da_cons (d_tup (da_cons (d_call (ok__law_made T) (hr.mono (by decide)) rfl T._law_made.gl T._law_made.fn.kp T._law_made.bd (da_cons (d_n (dn_call (ok__law_telling T) (hr.mono (by decide)) rfl T._law_telling.gl T._law_telling.fn.kp T._law_telling.bd (da_cons (dv 5) da_nil) (ar_cons ar_nil))) da_nil) (ar_cons ar_nil)) (da_cons (dv 5) da_nil))) (da_cons (d_tup (da_cons (d_binO rfl T.C_Calendar T.F_Calendar T.Calendar___or__.me (ok_Calendar___or__ T) T.Calendar___or__.bd (hr.mono (by decide)) (dv 5) (dv 6)) (da_cons (d_binO rfl T.C_Calendar T.F_Calendar T.Calendar___or__.me (ok_Calendar___or__ T) T.Calendar___or__.bd (hr.mono (by decide)) (dv 6) (dv 5)) da_nil))) da_nil)))))))
  (ss_cons (s_if [3, 4, 10] (t_ne hr.units (d_n (dn_lc (own := [("_law_one", 4), ("_law_other", 10)]) rfl sc_law.nd (di_any (dv 3)) (blkOk_by (N := ["_law_script", "_law_bag_here", "_law_turn", "_law_pairs", "_law_one", "_law_a", "_law_b", "_law_c", "_law_number", "_law_k", "_law_other"]) (sc := defScope s_law) (by decide +kernel)) (tg_tup 2 (tgs_cons (tg_name 4) (tgs_cons (tg_name 10) tgs_nil))) (by decide) (fun _ _ _ _ _ => (pg_tup (by rfl) (pgs_cons (pg_name (i := 4) sc_law.nd rfl (by first | exact Or.inl rfl | exact Or.inr rfl)) (pgs_cons (pg_name (i := 10) sc_law.nd rfl (by first | exact Or.inl rfl | exact Or.inr rfl)) pgs_nil)))) (fun _ _ _ _ _ => (dts_one (t_w (w_or (t_neO T.C_Calendar T.Calendar___eq__.me T.N_Calendar.1 T.N_Calendar.2 (ok_Calendar___eq__ T) T.Calendar___eq__.bd (hr.mono (by decide)) (dv 4) (dv 10)) (w_or1 (t_not (t_eqO T.C_Calendar T.Calendar___eq__.me (ok_Calendar___eq__ T) T.Calendar___eq__.bd (hr.mono (by decide)) (dv 4) (dv 10)))))))) (fun _ _ _ _ _ => d_int))) (d_n (dn_lst da_nil)))
  (ss_one (s_ret [] d_bl))
  ss_nil)
  (ss_cons (s_if [5, 6] (t_w (w_or (t_isntB (d_meth T.C_Calendar T.Calendar_within.me (ok_Calendar_within T) T.Calendar_within.bd (hr.mono (by decide)) (d_binO rfl T.C_Calendar T.F_Calendar T.Calendar___and__.me (ok_Calendar___and__ T) T.Calendar___and__.bd (hr.mono (by decide)) (dv 5) (dv 6)) (da_cons (dv 5) da_nil) (ar_cons ar_nil)) d_bl) (w_or (t_isntB (d_meth T.C_Calendar T.Calendar_within.me (ok_Calendar_within T) T.Calendar_within.bd (hr.mono (by decide)) (dv 5) (da_cons (d_binO rfl T.C_Calendar T.F_Calendar T.Calendar___or__.me (ok_Calendar___or__ T) T.Calendar___or__.bd (hr.mono (by decide)) (dv 5) (dv 6)) da_nil) (ar_cons ar_nil)) d_bl) (w_or1 (t_ne hr.units (d_meth T.C_Calendar T.Calendar_within.me (ok_Calendar_within T) T.Calendar_within.bd (hr.mono (by decide)) (dv 5) (da_cons (dv 6) da_nil) (ar_cons ar_nil)) (d_eqO T.C_Calendar T.Calendar___eq__.me (ok_Calendar___eq__ T) T.Calendar___eq__.bd (hr.mono (by decide)) (d_binO rfl T.C_Calendar T.F_Calendar T.Calendar___and__.me (ok_Calendar___and__ T) T.Calendar___and__.bd (hr.mono (by decide)) (dv 5) (dv 6)) (dv 5)))))))
  (ss_one (s_ret [] d_bl))
  ss_nil)
  (ss_cons (s_if [5, 6] (t_w (w_or (t_ne hr.units (d_meth T.C_Calendar T.Calendar_within.me (ok_Calendar_within T) T.Calendar_within.bd (hr.mono (by decide)) (dv 5) (da_cons (dv 6) da_nil) (ar_cons ar_nil)) (d_meth T.C_Calendar T.Calendar_within.me (ok_Calendar_within T) T.Calendar_within.bd (hr.mono (by decide)) (d_invO T.C_Calendar T.Calendar___invert__.me (ok_Calendar___invert__ T) T.Calendar___invert__.bd (hr.mono (by decide)) (dv 6)) (da_cons (d_invO T.C_Calendar T.Calendar___invert__.me (ok_Calendar___invert__ T) T.Calendar___invert__.bd (hr.mono (by decide)) (dv 5)) da_nil) (ar_cons ar_nil))) (w_or1 (t_w (w_and (t_val (d_meth T.C_Calendar T.Calendar_within.me (ok_Calendar_within T) T.Calendar_within.bd (hr.mono (by decide)) (dv 5) (da_cons (dv 6) da_nil) (ar_cons ar_nil))) (w_and (t_val (d_meth T.C_Calendar T.Calendar_within.me (ok_Calendar_within T) T.Calendar_within.bd (hr.mono (by decide)) (dv 6) (da_cons (dv 5) da_nil) (ar_cons ar_nil))) (w_and1 (t_neO T.C_Calendar T.Calendar___eq__.me T.N_Calendar.1 T.N_Calendar.2 (ok_Calendar___eq__ T) T.Calendar___eq__.bd (hr.mono (by decide)) (dv 5) (dv 6)))))))))
  (ss_one (s_ret [] d_bl))
  ss_nil)
  (ss_cons (s_for [5, 6, 7] PassesOwn.never rfl (di_any (d_tup (da_cons (dv 5) (da_cons (d_binO rfl T.C_Calendar T.F_Calendar T.Calendar___and__.me (ok_Calendar___and__ T) T.Calendar___and__.bd (hr.mono (by decide)) (dv 5) (dv 6)) (da_cons (d_invO T.C_Calendar T.Calendar___invert__.me (ok_Calendar___invert__ T) T.Calendar___invert__.bd (hr.mono (by decide)) (dv 7)) da_nil))))) (pg_name (i := 4) sc_law.nd rfl (by first | exact Or.inl rfl | exact Or.inr rfl)) (tg_name 4)
  (ss_one (s_for [1] PassesOwn.never rfl (di_any (d_tup (da_cons d_int (da_cons (d_add d_int (d_call (ok__law_take T) (hr.mono (by decide)) rfl T._law_take.gl T._law_take.fn.kp T._law_take.bd (da_cons (dv 1) (da_cons d_int da_nil)) (ar_cons (ar_cons ar_nil)))) (da_cons (d_add d_int (d_call (ok__law_long T) (hr.mono (by decide)) rfl T._law_long.gl T._law_long.fn.kp T._law_long.bd (da_cons (dv 1) da_nil) (ar_cons ar_nil))) da_nil))))) (pg_name (i := 8) sc_law.nd rfl (by first | exact Or.inl rfl | exact Or.inr rfl)) (tg_name 8)
  (ss_one (s_if [4, 8] (t_not (t_val (d_call (ok__law_walk_right T) (hr.mono (by decide)) rfl T._law_walk_right.gl T._law_walk_right.fn.kp T._law_walk_right.bd (da_cons (dv 4) (da_cons (dv 8) da_nil)) (ar_cons (ar_cons ar_nil)))))
  (ss_one (s_ret [] d_bl))
  ss_nil)))))
  (ss_one (s_if [5] (t_ne hr.units (d_n (dn_call (ok__law_telling T) (hr.mono (by decide)) rfl T._law_telling.gl T._law_telling.fn.kp T._law_telling.bd (da_cons (dv 5) da_nil) (ar_cons ar_nil))) (d_n (dn_call (ok__law_telling T) (hr.mono (by decide)) rfl T._law_telling.gl T._law_telling.fn.kp T._law_telling.bd (da_cons (d_call (ok__law_made T) (hr.mono (by decide)) rfl T._law_made.gl T._law_made.fn.kp T._law_made.bd (da_cons (d_n (dn_call (ok__law_telling T) (hr.mono (by decide)) rfl T._law_telling.gl T._law_telling.fn.kp T._law_telling.bd (da_cons (dv 5) da_nil) (ar_cons ar_nil))) da_nil) (ar_cons ar_nil)) da_nil) (ar_cons ar_nil))))
  (ss_one (s_ret [] d_bl))
  ss_nil)))))))))))
  (ss_one (s_ret [] d_bl))), law_run rfl bag_made hmath h⟩
end
end LW
set_option Elab.async false
set_option maxRecDepth 100000
set_option autoImplicit false
set_option linter.unusedVariables false
set_option maxHeartbeats 4000000
noncomputable section
namespace LW
open PySem L2 PySem.Spec PyProof.Rows DL
theorem non_int (i : Int) : eqD false .non (.int i) = M.ret (.bl false) := rfl
theorem prop_inv (c : Tel) : propD 2 R_Calendar___invert__ (calD c) = R_Calendar___invert__ [calD c] := propD_obj 2 _ [telD c]
local macro_rules | `(tactic| walk_at "dis") => `(tactic| first | assumption | omega | (simp only [List.length_map, List.length_range, List.length_append, List.length_cons, List.length_nil, List.length_reverse, List.length_take, List.length_drop, List.length_replicate, List.length_singleton]; omega) | (simp; done))
local macro_rules | `(tactic| walk_at "ev12") => `(tactic| try simp -implicitDefEqProofs -dsimp (disch := walk_at "dis") only [cal_flat, flatZ, guard_cal, in_nat, in_natE, isi_lst2, isi_tup2, non_int, prop_early, prop_inv, prop_period, prop_rests, prop_start, ↓q_seq, ↓q_seqK_nx, ↓q_seqK_rt, ↓q_seqK_rn, ↓q_seqK_bk, ↓q_seqK_ct, ↓q_runD, ↓q_runN, q_runK_rt, q_runK_rn, q_runK_nx, q_runKN_rn, ↓q_set, ↓q_setN, ↓q_ret, ↓q_retN, ↓q_if, ↓q_unp, q_unpK, ↓q_par, q_parK, ↓q_aug, q_augK, q_addF_int, q_addF_str, q_guard, ↓q_for, ↓q_forR, ↓q_sNil, ↓q_e2, ↓q_t2, ↓q_e1, ↓q_cst, ↓q_aN, ↓q_aC, ↓q_call, ↓q_callN, ↓q_eN, ↓q_nLst, q_lstK, ↓q_eTup, q_tupK, ↓q_tVal, ↓q_tNot, ↓q_tAnd, ↓q_tOr, ↓q_eAnd, ↓q_eNot, ↓q_eIf, ↓q_iAny, ↓q_iRg1, ↓q_iRg2, ↓q_nLc, ↓q_cT, ↓q_oN, ↓q_oS, ↓q_eSl, ↓q_eChain, ↓q_eMake, ↓q_eMeth, ↓q_n1M, ↓q_iSeq, q_selK, q_self, ↓q_ext, q_extK, q_inE, q_notInE, q_is_non, q_is_str, q_is_int, q_is_tup, q_is_lst, q_isnt_non, q_isnt_str, q_isnt_int, q_isnt_tup, q_isnt_lst, q_list_l, q_list_t, q_max2, q_sum, q_ixF_s, q_ixF_l, q_ixF_t, q_ixF_b, q_inF_s, q_inF_l, q_inF_t, q_lenG_s, q_lenG_l, q_lenG_t, q_lenG_d, q_lenG_dt, q_seeT, q_toDv, q_toDl, q_toDk, q_toDt, q_toDs0, q_toDs1, q_toDsm, q_fls0, q_fls1, q_flv, q_fll, q_flk, q_flt, q_flsm, q_flatS, q_flatI, q_flatS2, q_mapv0, bnd_ret, bnd_assoc, bnd_assoc', bnd_r, cnd_t, cnd_f, fail_bnd, bind_bnd, str01, List.cons.injEq, and_true, decide_true, decide_false, cut_toN, cut_fromN, cut_from1N, cut_to1N, cut_to1, cut_to2, cut_to3, cut_from1, cut_toM1, cut_fromM1, DL.startD, List.map_cons, List.map_nil, List.length_cons, List.length_nil, Nat.reduceAdd, Nat.reduceSub, List.replicate, List.cons_append, List.nil_append, view_eq, viewAt_cons, viewAt_nil, List.contains_cons, List.contains_nil, Nat.reduceBEq, Bool.or_true, Bool.or_false, Bool.true_or, Bool.false_or, if_true, Bool.false_eq_true, if_false, Option.map_some, Option.map_none, see_val, see_own, rd_0, rd_1, rd_2, rd_3, rd_4, rd_5, rd_6, rd_7, rd_8, rd_9, rd_10, rd_11, rd_12, rd_13, rd_14, Int.reduceToNat, flat_int, flat_str, flat_bl, flat_non, flat_bag, flat_lst, flat_tup, flat_obj, List.all_cons, List.all_nil, Bool.and_true, Bool.true_and, Bool.and_false, Bool.false_and, keepIf_t, keepIf_f, frz_eq, frzAt_cons, frzAt_nil, List.set_cons_succ, List.set_cons_zero, subD_int, addD_int, negD_int, asI_int, asB_bl, truD_bl, lenF_lst, lenF_tup, intF_int, intF_bl, absF_int, ltD_int, leD_int, gtD_int, geD_int, eqD_int, eqD_str, neD_int, neD_str, inD_str, notInD_str, slD_lst, slD_scr, revD_lst, itemsD_lst, itemsD_tup, itemsD_str, Bool.not_true, Bool.not_false, ixD_l, ixD_t, ofSome, atI_0, atI_1, atI_2, atI_3, atI_4, atI_app, slotD_obj, propD_obj, propN_obj, isC_obj, get0, get1, get2, get3, getS, bName_eq, bTup_eq, bCons_eq, bNil_eq, setAll2_cons, setAll2_nil, setAllD_cons, setAllD_nil, wipeD_cons, wipeD_nil, isi_str_str, isi_int_int, isi_bool_int, List.getElem?_cons_zero, List.getElem?_cons_succ, q_minG2, q_minGs, q_iOne, q_inO, q_setAt, q_flat_dct, q_flat_dcT, q_eqC, q_isiO, q_isiO_i, q_isiO_s, q_isiO_n, q_isiO_l, q_isiO_t, q_nSortSc, q_isB, q_isntB, q_n2, q_catL, q_cndN, q_szL, q_c0, q_c1, q_c2, q_c3, q_c4, q_c5, q_c6, q_c7, q_c8, q_c9, q_c10, q_c11, q_c12, q_c13, q_c14, q_c15, q_c16, q_guardT, q_eqBl, q_neBl, q_toDu, q_flu, q_bLst, q_neC, q_cut2, q_cut3, eq_self, cnd_dt, cnd_df, Int.toNat_natCast, lenF_str, modD_int, divD_int, addD_str, addD_lst, slD_str, revD_str, ixD_str, ixD_str1, ixD_strmod, rng1_int, rng2_int, mulD_intl, mulD_intr, intF_dig])
local macro_rules | `(tactic| walk_at "env2") => `(tactic| try simp -implicitDefEqProofs only [List.all_cons, List.all_nil, Bool.and_true, Bool.true_and, setAll2_cons, setAll2_nil, bName_eq, env0, List.replicate, flat_int, flat_str, flat_bl, flat_non, flat_bag, flat_lst, flat_tup, flat_obj, keepIf_t, keepIf_f, frz_eq, frzAt_cons, frzAt_nil, List.contains_cons, List.contains_nil, Nat.reduceBEq, Nat.reduceAdd, Bool.or_true, Bool.or_false, Bool.true_or, if_true, Bool.false_eq_true, if_false, Option.map_some, Option.map_none, see_val, see_own, List.set_cons_succ, List.set_cons_zero])
theorem fst_same {c : Tel} {n m : Nat} (hn : 1 ≤ n) (h : Fst c n (some m)) : c.cnt n = c.cnt m := by
  obtain ⟨a, b, q⟩ := h
  have := c.cnt_same hn (m - n) fun j j1 j2 => q j j1 (by omega)
  rw [show n + (m - n) = m by omega] at this
  exact this.symm
theorem walk_right_is {c : Tel} (h : c.Ok) (cs : c.s ≤ 2000) (cp : c.p ≤ 2000) {n : Nat} (hn : 1 ≤ n) : R__law_walk_right [calD c, .int (n : Int)] = M.ret (.bl true) := by
  have no := Tel.neg_ok h
  have po := Tel.plain_ok no
  have s1 := Tel.first_le no
  have p1 := (Tel.per_le no).2
  have nh : ∀ k, 1 ≤ k → c.neg.plain.has k = !c.has k := fun k hk => by rw [Tel.plain_has no, Tel.neg_has h hk]
  obtain ⟨o1, le, lf⟩ := least_is h cs cp hn
  obtain ⟨o2, ge, ge2, gf⟩ := gap_is h cs cp hn
  have me := many_is h cs cp hn
  have iv := invert_is h cs cp
  have ne := many_is po (Nat.le_trans s1 cs) (Nat.le_trans p1 cp) hn
  have sum : c.cnt n + c.neg.plain.cnt n = n - 1 := by
    obtain ⟨m, rfl⟩ : ∃ m, n = m + 1 := ⟨n - 1, by omega⟩
    rw [cnt_ext (c := c.neg.plain) (d := c.neg) fun k _ => Tel.plain_has no k, Tel.cnt_neg h]
    omega
  have ic := fun (neg : Bool) (k : Nat) => in_cal h neg k
  simp only [R__law_walk_right, F__law_walk_right]
  generalize c.neg.plain = d at *
  cases o1 with
  | none =>
    cases o2 with
    | none =>
      have a := lf n (Nat.le_refl n)
      have b := gf n (Nat.le_refl n)
      rw [nh n hn, a] at b
      cases b
    | some g =>
      obtain ⟨g1, g2, g3⟩ := gf
      have a := lf n (Nat.le_refl n)
      have gn : g = n := by
        rcases Nat.lt_or_ge n g with z | z
        · have := g3 n (Nat.le_refl n) z
          rw [nh n hn, a] at this; cases this
        · omega
      subst gn
      have le : R_Calendar_least_from [calD c, .int (g : Int)] = M.ret .non := le
      have ge : R_Calendar_gap_from [calD c, .int (g : Int)] = M.ret (.int (g : Int)) := ge
      have ge2 : R_Calendar_least_from [calD d, .int (g : Int)] = M.ret (.int (g : Int)) := ge2
      walk_at "ev12"
      rw [le]
      walk_at "ev12"
      rw [ge]
      walk_at "ev12"
      rw [me]
      walk_at "ev12"
      rw [ic, a, if_neg (by decide), Bool.and_false]
      walk_at "ev12"
      rw [iv]
      walk_at "ev12"
      rw [ge2]
      walk_at "ev12"
      rw [ic, a, if_neg (by decide), Bool.and_false]
      walk_at "ev12"
      rw [iv]
      walk_at "ev12"
      rw [ne]
      walk_at "ev12"
      rw [show ((c.cnt g : Nat) : Int) + ((d.cnt g : Nat) : Int) = (g : Int) - 1 by omega]
      walk_at "ev12"
  | some m =>
    cases o2 with
    | none =>
      have le : R_Calendar_least_from [calD c, .int (n : Int)] = M.ret (.int (m : Int)) := le
      have ge : R_Calendar_gap_from [calD c, .int (n : Int)] = M.ret .non := ge
      have ce := fst_same hn lf
      obtain ⟨m1, m2, m3⟩ := lf
      have mn : m = n := by
        rcases Nat.lt_or_ge n m with z | z
        · have := m3 n (Nat.le_refl n) z
          have q := gf n (Nat.le_refl n)
          rw [nh n hn, this] at q; cases q
        · omega
      subst mn
      have nt := nth_is h cs cp hn m2
      walk_at "ev12"
      rw [le]
      walk_at "ev12"
      rw [ge]
      walk_at "ev12"
      rw [me]
      walk_at "ev12"
      rw [ic, m2, decide_eq_true hn]
      walk_at "ev12"
      rw [me]
      walk_at "ev12"
      rw [nt]
      walk_at "ev12"
      rw [ic, m2, decide_eq_true hn]
      walk_at "ev12"
      rw [iv]
      walk_at "ev12"
      rw [ne]
      walk_at "ev12"
      rw [show ((c.cnt m : Nat) : Int) + ((d.cnt m : Nat) : Int) = (m : Int) - 1 by omega]
      walk_at "ev12"
    | some g =>
      have le : R_Calendar_least_from [calD c, .int (n : Int)] = M.ret (.int (m : Int)) := le
      have ge : R_Calendar_gap_from [calD c, .int (n : Int)] = M.ret (.int (g : Int)) := ge
      have ge2 : R_Calendar_least_from [calD d, .int (n : Int)] = M.ret (.int (g : Int)) := ge2
      have ce := fst_same hn lf
      obtain ⟨m1, m2, m3⟩ := lf
      obtain ⟨g1, g2, g3⟩ := gf
      have m0 : 1 ≤ m := by omega
      have g0 : 1 ≤ g := by omega
      have nt := nth_is h cs cp m0 m2
      have gh : c.has g = false := by
        have := nh g g0
        rw [g2] at this
        cases e : c.has g with
        | false => rfl
        | true => rw [e] at this; cases this
      have mg : m ≠ g := fun e => by rw [e, gh] at m2; cases m2
      have one : m = n ∨ g = n := by
        rcases Nat.lt_or_ge n m with z | z
        · rcases Nat.lt_or_ge n g with y | y
          · have a := m3 n (Nat.le_refl n) z
            have b := g3 n (Nat.le_refl n) y
            rw [nh n hn, a] at b; cases b
          · exact .inr (by omega)
        · exact .inl (by omega)
      have mi : minZ (m : Int) (g : Int) = (n : Int) := by
        unfold minZ
        split <;> omega
      have hm : c.has n = decide (m = n) := by
        by_cases e : m = n
        · rw [decide_eq_true e, ← e, m2]
        · rw [decide_eq_false e]
          exact m3 n (Nat.le_refl n) (by omega)
      have mm := many_is h cs cp m0
      walk_at "ev12"
      rw [le]
      walk_at "ev12"
      rw [ge]
      walk_at "ev12"
      rw [me]
      walk_at "ev12"
      rw [ic, m2, decide_eq_true m0]
      walk_at "ev12"
      rw [mm, ← ce]
      walk_at "ev12"
      rw [ce, nt]
      walk_at "ev12"
      rw [ic, gh, if_neg (by decide), Bool.and_false]
      walk_at "ev12"
      rw [iv]
      walk_at "ev12"
      rw [ge2]
      walk_at "ev12"
      rw [ic, hm, if_neg (by decide), decide_eq_true hn]
      walk_at "ev12"
      rw [show decide ((m : Int) = (n : Int)) = decide (m = n) from decide_eq_decide.mpr (by omega), decide_eq_true (show decide (m = n) = decide (m = n) from rfl)]
      walk_at "ev12"
      rw [iv]
      walk_at "ev12"
      rw [ne]
      walk_at "ev12"
      rw [show ((c.cnt m : Nat) : Int) + ((d.cnt n : Nat) : Int) = (n : Int) - 1 by omega]
      walk_at "ev12"
      try rfl
theorem compM_sub {α : Type} {p : Addr} {bs : D → Option (List (Nat × D))} {c : DL.Env → M Bool} {e : DL.Env → M D} {ρ : DL.Env} {inj y : α → D} : ∀ {xs : List α}, (∀ a ∈ xs, ∃ l, bs (inj a) = some l ∧ Tot p (c (setAllD ρ l)) (fun _ => True) ∧ e (setAllD ρ l) = M.ret (y a)) → Tot p (compM bs c e ρ (xs.map inj)) fun ys => ∃ zs : List α, ys = zs.map y ∧ zs.Sublist xs
  | [], _ => Tot.ret ⟨[], rfl, List.Sublist.slnil⟩
  | x :: xs, h => by
    obtain ⟨l, h1, h2, h3⟩ := h x List.mem_cons_self
    have ih := compM_sub (xs := xs) (bs := bs) (c := c) (e := e) (ρ := ρ) (inj := inj) (y := y) (p := p) fun a ha => h a (List.mem_cons_of_mem _ ha)
    rw [List.map_cons]
    unfold compM
    rw [h1]
    show Tot p (M.bind _ _) _
    refine h2.bind fun k _ => ?_
    cases k with
    | false =>
      show Tot p (compM bs c e ρ (xs.map inj)) _
      exact ih.mono fun ys ⟨zs, a, b⟩ => ⟨zs, a, b.cons _⟩
    | true =>
      show Tot p (M.bind (e (setAllD ρ l)) _) _
      rw [h3, M.ret_bind]
      refine ih.bind fun ys ⟨zs, a, b⟩ => Tot.ret ⟨x :: zs, by rw [a]; rfl, b.cons_cons _⟩
def fourD (c : Tel) : List D := [.int (c.s : Int), .lst (natL c.es), .int (c.p : Int), .lst (natL c.rs)]
theorem calendar_tot {p : Addr} : Tot p (R__law_calendar [.bag p]) fun ds => ∃ c : Tel, c.Ok ∧ c.s ≤ 12 ∧ c.p ≤ 8 ∧ ds = fourD c := by
  simp only [R__law_calendar, F__law_calendar]
  walk_at "ev12"
  refine (take_n (by omega) (by omega)).bnd ?_
  rintro _ ⟨s, rfl, hs⟩
  walk_at "ev12"
  refine (take_n (by omega) (by omega)).bnd ?_
  rintro _ ⟨q, rfl, hq⟩
  walk_at "ev12"
  rw [show (1 : Int) + (s : Int) = ((1 + s : Nat) : Int) by omega, show (1 : Int) + (q : Int) = ((1 + q : Nat) : Int) by omega]
  have s1 : 1 ≤ 1 + s ∧ 1 + s ≤ 12 := by omega
  have q1 : 1 ≤ 1 + q ∧ 1 + q ≤ 8 := by omega
  generalize 1 + s = S at s1 ⊢
  generalize 1 + q = P at q1 ⊢
  walk_at "ev12"
  rw [show (S : Int) - 1 = ((S - 1 : Nat) : Int) by omega, rng1_nat (S - 1) (by omega)]
  rw [show natL (List.range' 1 (S - 1)) = (List.range' 1 (S - 1)).map fun (n : Nat) => D.int (n : Int) from rfl]
  refine (compM_sub (y := fun (n : Nat) => D.int (n : Int)) fun k hk => ⟨_, rfl, ?_, ?_⟩).bnd ?_
  · walk_at "ev12"
    refine (take_n (by omega) (by omega)).bnd ?_
    rintro _ ⟨v, rfl, hv⟩
    walk_at "ev12"
    exact Tot.ret trivial
  · walk_at "ev12"
  · rintro _ ⟨es, rfl, esub⟩
    rw [show es.map (fun (n : Nat) => D.int (n : Int)) = natL es from rfl]
    have ef := natL_flat es
    have el := natL_len es
    have ez := esub.length_le
    rw [List.length_range'] at ez
    walk_at "ev12"
    rw [ef]
    walk_at "ev12"
    refine (take_n (by omega) (by omega)).bnd ?_
    rintro _ ⟨w, rfl, hw⟩
    walk_at "ev12"
    rw [show ((List.range P).map fun (k : Nat) => D.int (0 + (k : Int))) = (List.range P).map fun (n : Nat) => D.int (n : Int) from List.map_congr_left fun k _ => by rw [Int.zero_add]]
    refine (compM_sub (y := fun (n : Nat) => D.int (n : Int)) fun k hk => ⟨_, rfl, ?_, ?_⟩).bnd ?_
    · walk_at "ev12"
      by_cases e : (1 : Int) < (w : Int)
      · rw [decide_eq_true e]
        walk_at "ev12"
        refine (take_n (by omega) (by omega)).bnd ?_
        rintro _ ⟨v, rfl, hv⟩
        walk_at "ev12"
        cases decide ((v : Int) = 0)
        · walk_at "ev12"
          exact Tot.ret trivial
        · walk_at "ev12"
          exact Tot.ret trivial
      · rw [decide_eq_false e]
        walk_at "ev12"
        exact Tot.ret trivial
    · walk_at "ev12"
    · rintro _ ⟨rs, rfl, rsub⟩
      rw [show rs.map (fun (n : Nat) => D.int (n : Int)) = natL rs from rfl]
      have rf := natL_flat rs
      have rl := natL_len rs
      have rz := rsub.length_le
      rw [List.length_range] at rz
      walk_at "ev12"
      rw [rf]
      walk_at "ev12"
      refine Tot.ret ⟨⟨es, S, P, rs⟩, ⟨s1.1, q1.1, (range1_pw _).sublist esub, fun n hn => ?_, List.pairwise_lt_range.sublist rsub, fun r hr => List.mem_range.mp (rsub.subset hr)⟩, s1.2, q1.2, rfl⟩
      have := List.mem_range'_1.mp (esub.subset hn)
      show 1 ≤ n ∧ n < S
      omega
theorem made_is {c : Tel} (h : c.Ok) (cs : c.s ≤ 2000) (cp : c.p ≤ 2000) : R__law_made [.lst (fourD c)] = M.ret (calD c.plain) := by
  have ci := calI_is h (Nat.le_trans (Tel.es_len h) (by omega)) (by omega) (by omega) (Nat.le_trans (Tel.rs_len h) (by omega))
  simp only [R__law_made, F__law_made]
  unfold fourD calD
  walk_at "ev12"
  rw [ci]
  walk_at "ev12"
theorem telling_is (c : Tel) : R__law_telling [calD c] = M.ret (fourD c) := by
  simp only [R__law_telling, F__law_telling]
  walk_at "ev12"
  try rfl
structure G (L : Nat) (c : Tel) : Prop where
  pln : Pln c
  s : c.s ≤ 700
  p : c.p ∣ L
def pand (c d : Tel) : Tel := (Tel.join and c d).plain
def por (c d : Tel) : Tel := (Tel.join or c d).plain
def pxor (c d : Tel) : Tel := (Tel.join xor c d).plain
def pneg (c : Tel) : Tel := c.neg.plain
section
variable {L : Nat} {c d : Tel}
theorem G.join {f : Bool → Bool → Bool} (g : G L c) (k : G L d) : G L (Tel.join f c d).plain := by
  obtain ⟨a, b, _⟩ := join_size (f := f) g.pln.ok k.pln.ok
  have := g.s; have := k.s
  exact ⟨pln_of (Tel.join_ok g.pln.ok k.pln.ok), by omega, Nat.dvd_trans b (Nat.lcm_dvd g.p k.p)⟩
theorem G.and (g : G L c) (k : G L d) : G L (pand c d) := g.join k
theorem G.or (g : G L c) (k : G L d) : G L (por c d) := g.join k
theorem G.xor (g : G L c) (k : G L d) : G L (pxor c d) := g.join k
theorem G.neg (g : G L c) : G L (pneg c) := by
  have no := Tel.neg_ok g.pln.ok
  have s1 : c.neg.plain.s ≤ c.s := Tel.first_le no
  have p1 : c.neg.plain.p ∣ c.p := (Tel.per_le no).1
  have := g.s
  exact ⟨pln_of no, Nat.le_trans s1 this, Nat.dvd_trans p1 g.p⟩
theorem has_and (g : G L c) (k : G L d) {n : Nat} (hn : 1 ≤ n) : (pand c d).has n = (c.has n && d.has n) := by
  unfold pand
  rw [Tel.plain_has (Tel.join_ok g.pln.ok k.pln.ok), Tel.join_has g.pln.ok k.pln.ok hn]
theorem has_or (g : G L c) (k : G L d) {n : Nat} (hn : 1 ≤ n) : (por c d).has n = (c.has n || d.has n) := by
  unfold por
  rw [Tel.plain_has (Tel.join_ok g.pln.ok k.pln.ok), Tel.join_has g.pln.ok k.pln.ok hn]
theorem has_xor (g : G L c) (k : G L d) {n : Nat} (hn : 1 ≤ n) : (pxor c d).has n = Bool.xor (c.has n) (d.has n) := by
  unfold pxor
  rw [Tel.plain_has (Tel.join_ok g.pln.ok k.pln.ok), Tel.join_has g.pln.ok k.pln.ok hn]
theorem has_neg (g : G L c) {n : Nat} (hn : 1 ≤ n) : (pneg c).has n = !c.has n := by
  unfold pneg
  rw [Tel.plain_has (Tel.neg_ok g.pln.ok), Tel.neg_has g.pln.ok hn]
theorem G.bs (g : G L c) (l1 : 1 ≤ L) (l2 : L ≤ 1900) : c.s ≤ 2000 ∧ c.p ≤ 2000 := by
  have := g.s
  have := Nat.le_of_dvd l1 g.p
  omega
theorem G.lcm (g : G L c) (k : G L d) (l1 : 1 ≤ L) (l2 : L ≤ 1900) : Nat.lcm c.p d.p ≤ 1900 := Nat.le_trans (Nat.le_of_dvd l1 (Nat.lcm_dvd g.p k.p)) l2
theorem eqC_cal (R : List D → M D) (c d : Tel) : eqC 2 R (calD c) (calD d) = R [calD c, calD d] := M.guard_of (by show ((2 == 2) && (2 == 2)) = true; rfl)
theorem e_and (l1 : 1 ≤ L) (l2 : L ≤ 1900) (g : G L c) (k : G L d) : eqC 2 R_Calendar___and__ (calD c) (calD d) = M.ret (calD (pand c d)) := by
  rw [eqC_cal]
  exact and_is g.pln.ok k.pln.ok (g.bs l1 l2).1 (k.bs l1 l2).1 (g.bs l1 l2).2 (k.bs l1 l2).2 (g.lcm k l1 l2)
theorem e_or (l1 : 1 ≤ L) (l2 : L ≤ 1900) (g : G L c) (k : G L d) : eqC 2 R_Calendar___or__ (calD c) (calD d) = M.ret (calD (por c d)) := by
  rw [eqC_cal]
  exact or_is g.pln.ok k.pln.ok (g.bs l1 l2).1 (k.bs l1 l2).1 (g.bs l1 l2).2 (k.bs l1 l2).2 (g.lcm k l1 l2)
theorem e_xor (l1 : 1 ≤ L) (l2 : L ≤ 1900) (g : G L c) (k : G L d) : eqC 2 R_Calendar___xor__ (calD c) (calD d) = M.ret (calD (pxor c d)) := by
  rw [eqC_cal]
  exact xor_is g.pln.ok k.pln.ok (g.bs l1 l2).1 (k.bs l1 l2).1 (g.bs l1 l2).2 (k.bs l1 l2).2 (g.lcm k l1 l2)
theorem e_neg (l1 : 1 ≤ L) (l2 : L ≤ 1900) (g : G L c) : propD 2 R_Calendar___invert__ (calD c) = M.ret (calD (pneg c)) := by
  rw [prop_inv]
  exact invert_is g.pln.ok (g.bs l1 l2).1 (g.bs l1 l2).2
theorem G.tok (g : G L c) (l1 : 1 ≤ L) (l2 : L ≤ 1900) : okA (telD c) = true := by
  have ok := g.pln.ok
  have b := g.bs l1 l2
  exact telD_ok ok (Nat.le_trans (Tel.es_len ok) (by omega)) (by omega) (by omega) (Nat.le_trans (Tel.rs_len ok) (by omega))
theorem e_in (l1 : 1 ≤ L) (l2 : L ≤ 1900) (g : G L c) (k : G L d) : ∃ b : Bool, R_Calendar_within [calD c, calD d] = M.ret (.bl b) ∧ (b = true ↔ Inn c d) := within_is g.pln.ok k.pln.ok (g.bs l1 l2).1 (k.bs l1 l2).1 (g.bs l1 l2).2 (k.bs l1 l2).2 (g.lcm k l1 l2)
theorem telD_inj {c d : Tel} (h : telD c = telD d) : c = d := by
  have inj : ∀ {a b : List Nat}, natL a = natL b → a = b := by
    intro a
    induction a with
    | nil => intro b h; cases b with
      | nil => rfl
      | cons y b => cases h
    | cons x a ih => intro b h; cases b with
      | nil => cases h
      | cons y b =>
        have h := List.cons.inj h
        rw [show x = y by have := D.int.inj h.1; omega, ih h.2]
  cases c; cases d
  unfold telD at h
  have h := D.tup.inj h
  simp only [List.cons.injEq, D.lst.injEq, D.int.injEq, and_true] at h
  obtain ⟨a, b, e, f⟩ := h
  congr 1
  · exact inj a
  · omega
  · omega
  · exact inj f
theorem natL_pls : ∀ xs : List Nat, D.pls (natL xs) = true
  | [] => rfl
  | x :: xs => by
    show ((D.int (x : Int)).pl && D.pls (natL xs)) = true
    rw [natL_pls xs]
    rfl
theorem telD_pl (c : Tel) : (telD c).pl = true := by
  show ((D.lst (natL c.es)).pl && ((D.int (c.s : Int)).pl && ((D.int (c.p : Int)).pl && ((D.lst (natL c.rs)).pl && true)))) = true
  rw [show (D.lst (natL c.es)).pl = D.pls (natL c.es) from rfl, show (D.lst (natL c.rs)).pl = D.pls (natL c.rs) from rfl, natL_pls, natL_pls]
  rfl
theorem e_eq (l1 : 1 ≤ L) (l2 : L ≤ 1900) (g : G L c) (k : G L d) : ∃ b : Bool, eqC 2 R_Calendar___eq__ (calD c) (calD d) = M.ret (.bl b) ∧ neC 2 R_Calendar___eq__ (calD c) (calD d) = M.ret (.bl (!b)) ∧ (b = true ↔ c = d) := by
  have e : R_Calendar___eq__ [calD c, calD d] = M.ret (.bl (eqB (telD c) (telD d))) := by
    have h := eqD_pl false (g.tok l1 l2) (k.tok l1 l2) (telD_pl c) (telD_pl d)
    simp only [R_Calendar___eq__, F_Calendar___eq__]
    unfold calD
    walk_at "ev12"
    rw [h]
    walk_at "ev12"
    try rfl
  refine ⟨eqB (telD c) (telD d), by rw [eqC_cal, e], ?_, ?_⟩
  · refine (q_neC 2 _ [telD c] [telD d]).trans ?_
    unfold calD at e
    rw [e]
    rfl
  · rw [eqB_iff]
    exact ⟨telD_inj, fun h => by rw [h]⟩
end
local macro_rules | `(tactic| walk_at "ev13") => `(tactic| try simp -implicitDefEqProofs -dsimp (disch := walk_at "dis") only [cal_flat, flatZ, guard_cal, in_nat, in_natE, isi_lst2, isi_tup2, non_int, ↓q_seq, ↓q_seqK_nx, ↓q_seqK_rt, ↓q_seqK_rn, ↓q_seqK_bk, ↓q_seqK_ct, ↓q_runD, ↓q_runN, q_runK_rt, q_runK_rn, q_runK_nx, q_runKN_rn, ↓q_set, ↓q_setN, ↓q_ret, ↓q_retN, ↓q_if, ↓q_unp, q_unpK, ↓q_par, q_parK, ↓q_aug, q_augK, q_addF_int, q_addF_str, q_guard, ↓q_for, ↓q_forR, ↓q_sNil, ↓q_e2, ↓q_t2, ↓q_e1, ↓q_cst, ↓q_aN, ↓q_aC, ↓q_call, ↓q_callN, ↓q_eN, ↓q_nLst, q_lstK, ↓q_eTup, q_tupK, ↓q_tVal, ↓q_tNot, ↓q_tAnd, ↓q_tOr, ↓q_eAnd, ↓q_eNot, ↓q_eIf, ↓q_iAny, ↓q_iRg1, ↓q_iRg2, ↓q_nLc, ↓q_cT, ↓q_oN, ↓q_oS, ↓q_eSl, ↓q_eChain, ↓q_eMake, ↓q_eMeth, ↓q_n1M, ↓q_iSeq, q_selK, q_self, ↓q_ext, q_extK, q_inE, q_notInE, q_is_non, q_is_str, q_is_int, q_is_tup, q_is_lst, q_isnt_non, q_isnt_str, q_isnt_int, q_isnt_tup, q_isnt_lst, q_list_l, q_list_t, q_max2, q_sum, q_ixF_s, q_ixF_l, q_ixF_t, q_ixF_b, q_inF_s, q_inF_l, q_inF_t, q_lenG_s, q_lenG_l, q_lenG_t, q_lenG_d, q_lenG_dt, q_seeT, q_toDv, q_toDl, q_toDk, q_toDt, q_toDs0, q_toDs1, q_toDsm, q_fls0, q_fls1, q_flv, q_fll, q_flk, q_flt, q_flsm, q_flatS, q_flatI, q_flatS2, q_mapv0, bnd_ret, bnd_assoc, bnd_assoc', bnd_r, cnd_t, cnd_f, fail_bnd, bind_bnd, str01, List.cons.injEq, and_true, decide_true, decide_false, cut_toN, cut_fromN, cut_from1N, cut_to1N, cut_to1, cut_to2, cut_to3, cut_from1, cut_toM1, cut_fromM1, DL.startD, List.map_cons, List.map_nil, List.length_cons, List.length_nil, Nat.reduceAdd, Nat.reduceSub, List.replicate, List.cons_append, List.nil_append, view_eq, viewAt_cons, viewAt_nil, List.contains_cons, List.contains_nil, Nat.reduceBEq, Bool.or_true, Bool.or_false, Bool.true_or, Bool.false_or, if_true, Bool.false_eq_true, if_false, Option.map_some, Option.map_none, see_val, see_own, rd_0, rd_1, rd_2, rd_3, rd_4, rd_5, rd_6, rd_7, rd_8, rd_9, rd_10, rd_11, rd_12, rd_13, rd_14, Int.reduceToNat, flat_int, flat_str, flat_bl, flat_non, flat_bag, flat_lst, flat_tup, flat_obj, List.all_cons, List.all_nil, Bool.and_true, Bool.true_and, Bool.and_false, Bool.false_and, keepIf_t, keepIf_f, frz_eq, frzAt_cons, frzAt_nil, List.set_cons_succ, List.set_cons_zero, subD_int, addD_int, negD_int, asI_int, asB_bl, truD_bl, lenF_lst, lenF_tup, intF_int, intF_bl, absF_int, ltD_int, leD_int, gtD_int, geD_int, eqD_int, eqD_str, neD_int, neD_str, inD_str, notInD_str, slD_lst, slD_scr, revD_lst, itemsD_lst, itemsD_tup, itemsD_str, Bool.not_true, Bool.not_false, ixD_l, ixD_t, ofSome, atI_0, atI_1, atI_2, atI_3, atI_4, atI_app, slotD_obj, propD_obj, propN_obj, isC_obj, get0, get1, get2, get3, getS, bName_eq, bTup_eq, bCons_eq, bNil_eq, setAll2_cons, setAll2_nil, setAllD_cons, setAllD_nil, wipeD_cons, wipeD_nil, isi_str_str, isi_int_int, isi_bool_int, List.getElem?_cons_zero, List.getElem?_cons_succ, q_minG2, q_minGs, q_iOne, q_inO, q_setAt, q_flat_dct, q_flat_dcT, q_eqC, q_isiO, q_isiO_i, q_isiO_s, q_isiO_n, q_isiO_l, q_isiO_t, q_nSortSc, q_isB, q_isntB, q_n2, q_catL, q_cndN, q_szL, q_c0, q_c1, q_c2, q_c3, q_c4, q_c5, q_c6, q_c7, q_c8, q_c9, q_c10, q_c11, q_c12, q_c13, q_c14, q_c15, q_c16, q_guardT, q_eqBl, q_neBl, q_toDu, q_flu, q_bLst, q_neC, q_cut2, q_cut3, eq_self, cnd_dt, cnd_df, Int.toNat_natCast, lenF_str, modD_int, divD_int, addD_str, addD_lst, slD_str, revD_str, ixD_str, ixD_str1, ixD_strmod, rng1_int, rng2_int, mulD_intl, mulD_intr, intF_dig])
def Cal0 (P : Nat) (c : Tel) : Prop := Pln c ∧ c.s ≤ 700 ∧ c.p ≤ P
theorem three_of {P : D → Prop} {ds : List D} (h : ds.length = 3) (q : ∀ d ∈ ds, P d) : ∃ a b c, ds = [a, b, c] ∧ P a ∧ P b ∧ P c := by
  match ds, h with
  | [a, b, c], _ => exact ⟨a, b, c, rfl, q a (by simp), q b (by simp), q c (by simp)⟩
theorem all_G {a b c : Tel} (ha : Cal0 8 a) (hb : Cal0 8 b) (hc : Cal0 17 c) : ∃ L, 1 ≤ L ∧ L ≤ 1900 ∧ G L a ∧ G L b ∧ G L c := by
  obtain ⟨a1, a2, a3⟩ := ha
  obtain ⟨b1, b2, b3⟩ := hb
  obtain ⟨c1, c2, c3⟩ := hc
  have pa := a1.ok.p1
  have pb := b1.ok.p1
  have pc := c1.ok.p1
  refine ⟨a.p * b.p * c.p, Nat.mul_pos (Nat.mul_pos pa pb) pc, ?_, ⟨a1, a2, ?_⟩, ⟨b1, b2, ?_⟩, ⟨c1, c2, Nat.dvd_mul_left _ _⟩⟩
  · have := Nat.mul_le_mul (Nat.mul_le_mul a3 b3) c3
    omega
  · exact Nat.dvd_trans (Nat.dvd_mul_right a.p b.p) (Nat.dvd_mul_right _ _)
  · exact Nat.dvd_trans (Nat.dvd_mul_left b.p a.p) (Nat.dvd_mul_right _ _)
theorem fourD_ok {c : Tel} (h : c.Ok) (ez : c.es.length ≤ 4000) (sz : c.s ≤ 5000) (pz : c.p ≤ 4000) (rz : c.rs.length ≤ 4000) : okA (.lst (fourD c)) = true := okA_lst (k := 1) (w := 60003) (fun d hd => by
  rcases List.mem_cons.mp hd with rfl | hd
  · exact (Okd.int (by have := h.s1; omega)).mono (by omega) (by omega)
  rcases List.mem_cons.mp hd with rfl | hd
  · exact natL_okd (fun n hn => by have := h.eb n hn; omega) ez
  rcases List.mem_cons.mp hd with rfl | hd
  · exact (Okd.int (by have := h.p1; omega)).mono (by omega) (by omega)
  rw [List.mem_singleton.mp hd]
  exact natL_okd (fun n hn => by have := h.rb n hn; omega) rz) (by omega) (by unfold fourD; simp)
theorem math : ∀ (p : Addr), Tot p (F_law (env0 9 p)) fun o => o = .rt (.bl true) := by
  intro p
  unfold F_law
  walk_at "env2"
  walk_at "ev13"
  refine tot_loopC (fun ρ => ∃ s2 s3 s4 s5 s6 s7 s8, ρ = [none, some (.val (.bag p)), s2, s3, s4, s5, s6, s7, s8, none, none]) ⟨_, _, _, _, _, _, _, rfl⟩ ?_ ?_
  · rintro d hd ρ ⟨s2, s3, s4, s5, s6, s7, s8, rfl⟩
    refine ⟨_, rfl, ?_⟩
    walk_at "env2"
    walk_at "ev13"
    refine (compM_tot (P := fun d => ∃ c : Tel, Cal0 8 c ∧ d = calD c) fun x hx => ?_).bnd ?_
    · obtain ⟨k, _, rfl⟩ := List.mem_map.mp hx
      refine ⟨_, rfl, ?_, ?_⟩
      · walk_at "ev13"
      · walk_at "ev13"
        refine calendar_tot.bnd ?_
        rintro _ ⟨c, h1, h2, h3, rfl⟩
        walk_at "ev13"
        rw [made_is h1 (by omega) (by omega)]
        walk_at "ev13"
        have s1 : c.plain.s ≤ c.s := Tel.first_le h1
        have p1 : c.plain.p ≤ c.p := (Tel.per_le h1).2
        exact Tot.ret ⟨c.plain, ⟨pln_of h1, by omega, by omega⟩, rfl⟩
    · rintro ds ⟨dl, dp⟩
      rw [List.length_map, List.length_range] at dl
      obtain ⟨_, _, _, rfl, ⟨a, ha, rfl⟩, ⟨b, hb, rfl⟩, ⟨c, hc, rfl⟩⟩ := three_of dl dp
      walk_at "ev13"
      refine (take_n (by omega) (by omega)).bnd ?_
      rintro _ ⟨v, rfl, hv⟩
      walk_at "ev13"
      refine Tot.bnd (P := fun o => ∃ c : Tel, Cal0 17 c ∧ o = .nx [none, some (.val (.bag p)), some (.val d), s3, s4, some (.val (calD a)), some (.val (calD b)), some (.val (calD c)), s8, none, none]) ?_ ?_
      · by_cases e : (v : Int) = 0
        · rw [decide_eq_true e]
          walk_at "ev13"
          refine (take_n (by omega) (by omega)).bnd ?_
          rintro _ ⟨t1, rfl, h1⟩
          walk_at "ev13"
          refine (take_n (by omega) (by omega)).bnd ?_
          rintro _ ⟨t2, rfl, h2⟩
          walk_at "ev13"
          refine (take_n (by omega) (by omega)).bnd ?_
          rintro _ ⟨t3, rfl, h3⟩
          walk_at "ev13"
          rw [show D.lst [.int (9 + (t1 : Int)), .int (11 + (t2 : Int)), .int (38 + (t3 : Int))] = D.lst (natL [9 + t1, 11 + t2, 38 + t3]) from rfl]
          have q : ∀ s ∈ [9 + t1, 11 + t2, 38 + t3], 1 ≤ s ∧ s ≤ 40 := fun s hs => by
            simp only [List.mem_cons, List.not_mem_nil, or_false] at hs
            omega
          have m1 : 38 + t3 ∈ [9 + t1, 11 + t2, 38 + t3] := by simp
          have m2 : ∀ s ∈ [9 + t1, 11 + t2, 38 + t3], s ≤ 38 + t3 := fun s hs => by
            simp only [List.mem_cons, List.not_mem_nil, or_false] at hs
            omega
          have m3 : 9 + t1 ∈ [9 + t1, 11 + t2, 38 + t3] := by simp
          have q1 : ∀ s ∈ [9 + t1, 11 + t2, 38 + t3], 1 ≤ s := fun s hs => (q s hs).1
          rw [of_steps_is (.inl rfl) q (by show 3 ≤ 20; omega) (List.cons_ne_nil _ _) m1 m2]
          walk_at "ev13"
          have ok := stepT_ok (mx := 38 + t3) q1 (List.cons_ne_nil _ _)
          obtain ⟨_, f2, _⟩ := stepT_first q1 m1 m2 m3
          have le := Nat.mul_le_mul (show 9 + t1 ≤ 17 by omega) (show 38 + t3 ≤ 40 by omega)
          have pe : (stepT [9 + t1, 11 + t2, 38 + t3] (38 + t3)).plain.p = gcdL [9 + t1, 11 + t2, 38 + t3] := stepT_per q1 (List.cons_ne_nil _ _)
          have pl := Nat.le_of_dvd (q1 _ m3) (gcdL_dvd m3)
          have se : (stepT [9 + t1, 11 + t2, 38 + t3] (38 + t3)).plain.s = (stepT [9 + t1, 11 + t2, 38 + t3] (38 + t3)).first := rfl
          exact Tot.ret ⟨_, ⟨pln_of ok, by rw [se]; omega, by rw [pe]; omega⟩, rfl⟩
        · rw [decide_eq_false e]
          walk_at "ev13"
          exact Tot.ret ⟨c, ⟨hc.1, hc.2.1, by have := hc.2.2; omega⟩, rfl⟩
      · rintro _ ⟨c, hc, rfl⟩
        obtain ⟨L, l1, l2, ga, gb, gc⟩ := all_G ha hb hc
        walk_at "ev13"
        rw [e_and l1 l2 ga gb]
        walk_at "ev13"
        rw [e_neg l1 l2 (ga.and gb)]
        walk_at "ev13"
        rw [e_neg l1 l2 ga]
        walk_at "ev13"
        rw [e_neg l1 l2 gb]
        walk_at "ev13"
        rw [e_or l1 l2 ga.neg gb.neg]
        walk_at "ev13"
        rw [e_xor l1 l2 ga gb]
        walk_at "ev13"
        rw [e_neg l1 l2 gb]
        walk_at "ev13"
        rw [e_and l1 l2 ga gb.neg]
        walk_at "ev13"
        rw [e_neg l1 l2 ga]
        walk_at "ev13"
        rw [e_and l1 l2 ga.neg gb]
        walk_at "ev13"
        rw [e_or l1 l2 (ga.and gb.neg) (ga.neg.and gb)]
        walk_at "ev13"
        rw [e_or l1 l2 gb gc]
        walk_at "ev13"
        rw [e_and l1 l2 ga (gb.or gc)]
        walk_at "ev13"
        rw [e_and l1 l2 ga gb]
        walk_at "ev13"
        rw [e_and l1 l2 ga gc]
        walk_at "ev13"
        rw [e_or l1 l2 (ga.and gb) (ga.and gc)]
        walk_at "ev13"
        rw [e_neg l1 l2 ga]
        walk_at "ev13"
        rw [e_neg l1 l2 ga.neg]
        walk_at "ev13"
        rw [e_xor l1 l2 ga gb]
        walk_at "ev13"
        rw [e_xor l1 l2 (ga.xor gb) gb]
        walk_at "ev13"
        rw [e_or l1 l2 ga ga]
        walk_at "ev13"
        rw [e_and l1 l2 ga ga]
        walk_at "ev13"
        rw [e_xor l1 l2 ga ga]
        walk_at "ev13"
        rw [e_neg l1 l2 ga]
        walk_at "ev13"
        rw [e_and l1 l2 ga ga.neg]
        walk_at "ev13"
        rw [telling_is]
        walk_at "ev13"
        rw [made_is ga.pln.ok (ga.bs l1 l2).1 (ga.bs l1 l2).2, ga.pln.eq]
        walk_at "ev13"
        rw [e_or l1 l2 ga gb]
        walk_at "ev13"
        rw [e_or l1 l2 gb ga]
        walk_at "ev13"
        have key : ∀ x ∈ ([(pneg (pand a b), por (pneg a) (pneg b)), (pxor a b, por (pand a (pneg b)) (pand (pneg a) b)), (pand a (por b c), por (pand a b) (pand a c)), (pneg (pneg a), a), (pxor (pxor a b) b, a), (por a a, pand a a), (pxor a a, pand a (pneg a)), (a, a), (por a b, por b a)] : List (Tel × Tel)), G L x.1 ∧ x.1 = x.2 := by
          have k0 : (pneg (pand a b)) = (por (pneg a) (pneg b)) := pln_ext ((ga.and gb).neg).pln (ga.neg.or gb.neg).pln fun n hn => by
            rw [has_neg (ga.and gb) hn, has_and ga gb hn, has_or ga.neg gb.neg hn, has_neg ga hn, has_neg gb hn]
            cases a.has n <;> cases b.has n <;> cases c.has n <;> rfl
          have k1 : (pxor a b) = (por (pand a (pneg b)) (pand (pneg a) b)) := pln_ext (ga.xor gb).pln ((ga.and gb.neg).or (ga.neg.and gb)).pln fun n hn => by
            rw [has_xor ga gb hn, has_or (ga.and gb.neg) (ga.neg.and gb) hn, has_and ga gb.neg hn, has_and ga.neg gb hn, has_neg ga hn, has_neg gb hn]
            cases a.has n <;> cases b.has n <;> cases c.has n <;> rfl
          have k2 : (pand a (por b c)) = (por (pand a b) (pand a c)) := pln_ext (ga.and (gb.or gc)).pln ((ga.and gb).or (ga.and gc)).pln fun n hn => by
            rw [has_and ga (gb.or gc) hn, has_or gb gc hn, has_or (ga.and gb) (ga.and gc) hn, has_and ga gb hn, has_and ga gc hn]
            cases a.has n <;> cases b.has n <;> cases c.has n <;> rfl
          have k3 : (pneg (pneg a)) = (a) := pln_ext (ga.neg.neg).pln (ga).pln fun n hn => by
            rw [has_neg ga.neg hn, has_neg ga hn]
            cases a.has n <;> cases b.has n <;> cases c.has n <;> rfl
          have k4 : (pxor (pxor a b) b) = (a) := pln_ext ((ga.xor gb).xor gb).pln (ga).pln fun n hn => by
            rw [has_xor (ga.xor gb) gb hn, has_xor ga gb hn]
            cases a.has n <;> cases b.has n <;> cases c.has n <;> rfl
          have k5 : (por a a) = (pand a a) := pln_ext (ga.or ga).pln (ga.and ga).pln fun n hn => by
            rw [has_or ga ga hn, has_and ga ga hn]
            cases a.has n <;> cases b.has n <;> cases c.has n <;> rfl
          have k6 : (pxor a a) = (pand a (pneg a)) := pln_ext (ga.xor ga).pln (ga.and ga.neg).pln fun n hn => by
            rw [has_xor ga ga hn, has_and ga ga.neg hn, has_neg ga hn]
            cases a.has n <;> cases b.has n <;> cases c.has n <;> rfl
          have k7 : (a) = (a) := rfl
          have k8 : (por a b) = (por b a) := pln_ext (ga.or gb).pln (gb.or ga).pln fun n hn => by
            rw [has_or ga gb hn, has_or gb ga hn]
            cases a.has n <;> cases b.has n <;> cases c.has n <;> rfl
          intro x hx
          simp only [List.mem_cons, List.not_mem_nil, or_false] at hx
          rcases hx with rfl | rfl | rfl | rfl | rfl | rfl | rfl | rfl | rfl
          · exact ⟨(ga.and gb).neg, k0⟩
          · exact ⟨ga.xor gb, k1⟩
          · exact ⟨ga.and (gb.or gc), k2⟩
          · exact ⟨ga.neg.neg, k3⟩
          · exact ⟨(ga.xor gb).xor gb, k4⟩
          · exact ⟨ga.or ga, k5⟩
          · exact ⟨ga.xor ga, k6⟩
          · exact ⟨ga, k7⟩
          · exact ⟨ga.or gb, k8⟩
        rw [show ([D.tup [calD (pneg (pand a b)), calD (por (pneg a) (pneg b))], D.tup [calD (pxor a b), calD (por (pand a (pneg b)) (pand (pneg a) b))], D.tup [calD (pand a (por b c)), calD (por (pand a b) (pand a c))], D.tup [calD (pneg (pneg a)), calD (a)], D.tup [calD (pxor (pxor a b) b), calD (a)], D.tup [calD (por a a), calD (pand a a)], D.tup [calD (pxor a a), calD (pand a (pneg a))], D.tup [calD (a), calD (a)], D.tup [calD (por a b), calD (por b a)]] : List D) = ([(pneg (pand a b), por (pneg a) (pneg b)), (pxor a b, por (pand a (pneg b)) (pand (pneg a) b)), (pand a (por b c), por (pand a b) (pand a c)), (pneg (pneg a), a), (pxor (pxor a b) b, a), (por a a, pand a a), (pxor a a, pand a (pneg a)), (a, a), (por a b, por b a)] : List (Tel × Tel)).map fun x => D.tup [calD x.1, calD x.2] from rfl]
        generalize ([(pneg (pand a b), por (pneg a) (pneg b)), (pxor a b, por (pand a (pneg b)) (pand (pneg a) b)), (pand a (por b c), por (pand a b) (pand a c)), (pneg (pneg a), a), (pxor (pxor a b) b, a), (por a a, pand a a), (pxor a a, pand a (pneg a)), (a, a), (por a b, por b a)] : List (Tel × Tel)) = XS at key ⊢
        rw [compM_filterI (l := fun (x : Tel × Tel) => [(4, calD x.1), (10, calD x.2)]) (k := fun _ => false) (y := fun _ => D.int 1) (xs := XS) fun x hx => ⟨rfl, by
          obtain ⟨g, e⟩ := key x hx
          obtain ⟨bb, e1, e2, e3⟩ := e_eq l1 l2 (d := x.2) g (by rw [← e]; exact g)
          have bt : bb = true := e3.mpr e
          subst bt
          walk_at "ev13"
          rw [e2]
          walk_at "ev13"
          rw [e1]
          walk_at "ev13", by walk_at "ev13"⟩]
        rw [show XS.filter (fun _ => false) = [] from List.filter_eq_nil_iff.mpr fun a _ => by decide]
        walk_at "ev13"
        rw [neD_same (show okA (.lst []) = true by decide +kernel)]
        walk_at "ev13"
        have inn1 : Inn (pand a b) a := fun n hn h => by
          rw [has_and ga gb hn] at h
          exact (Bool.and_eq_true _ _ ▸ h).1
        have inn2 : Inn a (por a b) := fun n hn h => by rw [has_or ga gb hn, h]; rfl
        have iff3 : Inn a b ↔ pand a b = a := by
          constructor
          · intro h
            refine pln_ext (ga.and gb).pln ga.pln fun n hn => ?_
            rw [has_and ga gb hn]
            cases e : a.has n with
            | false => rfl
            | true => rw [h n hn e]; rfl
          · intro h n hn e
            have := has_and ga gb hn
            rw [h, e] at this
            exact (Bool.true_and _).symm.trans this.symm
        have iff4 : Inn (pneg b) (pneg a) ↔ Inn a b := by
          constructor
          · intro h n hn e
            have := h n hn
            rw [has_neg gb hn, has_neg ga hn, e] at this
            cases q : b.has n with
            | true => rfl
            | false => rw [q] at this; exact absurd (this rfl) (by decide)
          · intro h n hn
            rw [has_neg gb hn, has_neg ga hn]
            intro e
            cases q : a.has n with
            | false => rfl
            | true => rw [h n hn q] at e; cases e
        have iff5 : Inn a b → Inn b a → a = b := fun h k => pln_ext ga.pln gb.pln fun n hn => by
          have x := h n hn
          have y := k n hn
          cases p : a.has n <;> cases q : b.has n
          · rfl
          · rw [p, q] at y; exact absurd (y rfl) (by decide)
          · rw [p, q] at x; exact absurd (x rfl) (by decide)
          · rfl
        obtain ⟨w1, v1, u1⟩ := e_in l1 l2 (ga.and gb) ga
        have w1 : w1 = true := u1.mpr inn1
        subst w1
        obtain ⟨w2, v2, u2⟩ := e_in l1 l2 ga (ga.or gb)
        have w2 : w2 = true := u2.mpr inn2
        subst w2
        obtain ⟨w3, v3, u3⟩ := e_in l1 l2 ga gb
        obtain ⟨q, eq1, _, uq⟩ := e_eq l1 l2 (ga.and gb) ga
        have qe : q = w3 := Bool.eq_iff_iff.mpr (uq.trans (iff3.symm.trans u3.symm))
        rw [qe] at eq1
        obtain ⟨w4, v4, u4⟩ := e_in l1 l2 gb.neg ga.neg
        have we : w4 = w3 := Bool.eq_iff_iff.mpr (u4.trans (iff4.trans u3.symm))
        rw [we] at v4
        obtain ⟨w5, v5, u5⟩ := e_in l1 l2 gb ga
        obtain ⟨q2, _, nq2, uq2⟩ := e_eq l1 l2 ga gb
        rw [e_and l1 l2 ga gb]
        walk_at "ev13"
        rw [v1]
        walk_at "ev13"
        rw [e_or l1 l2 ga gb]
        walk_at "ev13"
        rw [v2]
        walk_at "ev13"
        rw [v3]
        walk_at "ev13"
        rw [e_and l1 l2 ga gb]
        walk_at "ev13"
        rw [eq1]
        walk_at "ev13"
        rw [v3]
        walk_at "ev13"
        rw [e_neg l1 l2 gb]
        walk_at "ev13"
        rw [e_neg l1 l2 ga]
        walk_at "ev13"
        rw [v4]
        walk_at "ev13"
        rw [v3]
        walk_at "ev13"
        refine Tot.bnd (P := fun k => k = false) ?_ ?_
        · cases w3 with
          | false =>
            walk_at "ev13"
            exact Tot.ret rfl
          | true =>
            walk_at "ev13"
            rw [v5]
            walk_at "ev13"
            cases w5 with
            | false =>
              walk_at "ev13"
              exact Tot.ret rfl
            | true =>
              walk_at "ev13"
              rw [nq2, uq2.mpr (iff5 (u3.mp rfl) (u5.mp rfl))]
              walk_at "ev13"
              exact Tot.ret rfl
        · rintro _ rfl
          walk_at "ev13"
          rw [e_and l1 l2 ga gb]
          walk_at "ev13"
          rw [e_neg l1 l2 gc]
          walk_at "ev13"
          generalize (some (Slot.own (XS.map fun x => D.tup [calD x.fst, calD x.snd])) : Option DL.Slot) = s3'
          refine tot_loopC (fun ρ => ∃ s4 s8, ρ = [none, some (.val (.bag p)), some (.val d), s3', s4, some (.val (calD a)), some (.val (calD b)), some (.val (calD c)), s8, none, none]) ⟨_, _, rfl⟩ ?_ ?_
          · rintro z hz ρ ⟨s4, s8, rfl⟩
            obtain ⟨e, ge, rfl⟩ : ∃ e, G L e ∧ z = calD e := by
              simp only [List.mem_cons, List.not_mem_nil, or_false] at hz
              rcases hz with rfl | rfl | rfl
              · exact ⟨_, ga, rfl⟩
              · exact ⟨_, ga.and gb, rfl⟩
              · exact ⟨_, gc.neg, rfl⟩
            refine ⟨_, rfl, ?_⟩
            walk_at "env2"
            walk_at "ev13"
            refine (take_n (by omega) (by omega)).bnd ?_
            rintro _ ⟨t1, rfl, _⟩
            walk_at "ev13"
            refine long_tot.bnd ?_
            rintro _ ⟨t2, rfl⟩
            walk_at "ev13"
            refine tot_loopZ (fun ρ => ∃ s8, ρ = [none, some (.val (.bag p)), some (.val d), s3', some (.val (calD e)), some (.val (calD a)), some (.val (calD b)), some (.val (calD c)), s8, none, none]) ⟨_, rfl⟩ ?_ ?_
            · rintro z hz ρ ⟨s8, rfl⟩
              obtain ⟨n, n1, rfl⟩ : ∃ n : Nat, 1 ≤ n ∧ z = .int (n : Int) := by
                simp only [List.mem_cons, List.not_mem_nil, or_false] at hz
                rcases hz with rfl | rfl | rfl
                · exact ⟨1, by omega, rfl⟩
                · exact ⟨1 + t1, by omega, by rw [Int.natCast_add]; rfl⟩
                · exact ⟨1 + t2, by omega, by rw [Int.natCast_add]; rfl⟩
              refine ⟨_, rfl, ?_⟩
              walk_at "env2"
              walk_at "ev13"
              rw [walk_right_is ge.pln.ok (ge.bs l1 l2).1 (ge.bs l1 l2).2 n1]
              walk_at "ev13"
              exact Tot.ret ⟨_, .inl rfl, _, rfl⟩
            · rintro ρ ⟨s8, rfl⟩
              exact ⟨_, .inl rfl, _, _, rfl⟩
          · rintro ρ ⟨s4, s8, rfl⟩
            walk_at "ev13"
            rw [telling_is]
            walk_at "ev13"
            rw [telling_is]
            walk_at "ev13"
            rw [made_is ga.pln.ok (ga.bs l1 l2).1 (ga.bs l1 l2).2, ga.pln.eq]
            walk_at "ev13"
            rw [telling_is]
            walk_at "ev13"
            have bs := ga.bs l1 l2
            rw [neD_same (fourD_ok ga.pln.ok (Nat.le_trans (Tel.es_len ga.pln.ok) (by omega)) (by omega) (by omega) (Nat.le_trans (Tel.rs_len ga.pln.ok) (by omega)))]
            walk_at "ev13"
            exact Tot.ret ⟨_, .inl rfl, _, _, _, _, _, _, _, rfl⟩
  · rintro ρ ⟨s2, s3, s4, s5, s6, s7, s8, rfl⟩
    walk_at "ev13"
    exact Tot.ret rfl
end LW
set_option Elab.async false
set_option maxRecDepth 100000
set_option autoImplicit false
set_option linter.unusedVariables false
set_option maxHeartbeats 4000000
namespace LW
open PySem L2 PySem.Spec PyProof.Rows DL
theorem all_mk {l : PySem.W.OpenLaw} {w : World} {K : PySem.W.Frag} {h : Heap} {mg : Str → Option Value} {fa : Addr} (X : K.In h) (G : h.Ns mainGlobals mg) (hfa : mg "law" = some (.ref fa))
    {f0 : Addr} {od0 an0 : Option Addr} {sl0 : Array (Option Value)} {oc0 kV0 dc0 pm0 cd0 ct0 : Value}
    {f1 : Addr} {od1 an1 : Option Addr} {sl1 : Array (Option Value)} {oc1 kV1 dc1 pm1 cd1 ct1 : Value}
    {f2 : Addr} {od2 an2 : Option Addr} {sl2 : Array (Option Value)} {oc2 kV2 dc2 pm2 cd2 ct2 : Value}
    {f3 : Addr} {od3 an3 : Option Addr} {sl3 : Array (Option Value)} {oc3 kV3 dc3 pm3 cd3 ct3 : Value}
    {f4 : Addr} {od4 an4 : Option Addr} {sl4 : Array (Option Value)} {oc4 kV4 dc4 pm4 cd4 ct4 : Value}
    {f5 : Addr} {od5 an5 : Option Addr} {sl5 : Array (Option Value)} {oc5 kV5 dc5 pm5 cd5 ct5 : Value}
    {f6 : Addr} {od6 an6 : Option Addr} {sl6 : Array (Option Value)} {oc6 kV6 dc6 pm6 cd6 ct6 : Value}
    {f7 : Addr} {od7 an7 : Option Addr} {sl7 : Array (Option Value)} {oc7 kV7 dc7 pm7 cd7 ct7 : Value}
    {f8 : Addr} {od8 an8 : Option Addr} {sl8 : Array (Option Value)} {oc8 kV8 dc8 pm8 cd8 ct8 : Value}
    {f9 : Addr} {od9 an9 : Option Addr} {sl9 : Array (Option Value)} {oc9 kV9 dc9 pm9 cd9 ct9 : Value}
    {f10 : Addr} {od10 an10 : Option Addr} {sl10 : Array (Option Value)} {oc10 kV10 dc10 pm10 cd10 ct10 : Value}
    {f11 : Addr} {od11 an11 : Option Addr} {sl11 : Array (Option Value)} {oc11 kV11 dc11 pm11 cd11 ct11 : Value}
    {f12 : Addr} {od12 an12 : Option Addr} {sl12 : Array (Option Value)} {oc12 kV12 dc12 pm12 cd12 ct12 : Value}
    {f13 : Addr} {od13 an13 : Option Addr} {sl13 : Array (Option Value)} {oc13 kV13 dc13 pm13 cd13 ct13 : Value}
    {f14 : Addr} {od14 an14 : Option Addr} {sl14 : Array (Option Value)} {oc14 kV14 dc14 pm14 cd14 ct14 : Value}
    {f15 : Addr} {od15 an15 : Option Addr} {sl15 : Array (Option Value)} {oc15 kV15 dc15 pm15 cd15 ct15 : Value}
    {f16 : Addr} {od16 an16 : Option Addr} {sl16 : Array (Option Value)} {oc16 kV16 dc16 pm16 cd16 ct16 : Value}
    {f17 : Addr} {od17 an17 : Option Addr} {sl17 : Array (Option Value)} {oc17 kV17 dc17 pm17 cd17 ct17 : Value}
    {f18 : Addr} {od18 an18 : Option Addr} {sl18 : Array (Option Value)} {oc18 kV18 dc18 pm18 cd18 ct18 : Value}
    {f19 : Addr} {od19 an19 : Option Addr} {sl19 : Array (Option Value)} {oc19 kV19 dc19 pm19 cd19 ct19 : Value}
    {f20 : Addr} {od20 an20 : Option Addr} {sl20 : Array (Option Value)} {oc20 kV20 dc20 pm20 cd20 ct20 : Value}
    {f21 : Addr} {od21 an21 : Option Addr} {sl21 : Array (Option Value)} {oc21 kV21 dc21 pm21 cd21 ct21 : Value}
    {f22 : Addr} {od22 an22 : Option Addr} {sl22 : Array (Option Value)} {oc22 kV22 dc22 pm22 cd22 ct22 : Value}
    {f23 : Addr} {od23 an23 : Option Addr} {sl23 : Array (Option Value)} {oc23 kV23 dc23 pm23 cd23 ct23 : Value}
    {f24 : Addr} {od24 an24 : Option Addr} {sl24 : Array (Option Value)} {oc24 kV24 dc24 pm24 cd24 ct24 : Value}
    {f25 : Addr} {od25 an25 : Option Addr} {sl25 : Array (Option Value)} {oc25 kV25 dc25 pm25 cd25 ct25 : Value}
    {f26 : Addr} {od26 an26 : Option Addr} {sl26 : Array (Option Value)} {oc26 kV26 dc26 pm26 cd26 ct26 : Value}
    {f27 : Addr} {od27 an27 : Option Addr} {sl27 : Array (Option Value)} {oc27 kV27 dc27 pm27 cd27 ct27 : Value}
    {f28 : Addr} {od28 an28 : Option Addr} {sl28 : Array (Option Value)} {oc28 kV28 dc28 pm28 cd28 ct28 : Value}
    {f29 : Addr} {od29 an29 : Option Addr} {sl29 : Array (Option Value)} {oc29 kV29 dc29 pm29 cd29 ct29 : Value}
    {f30 : Addr} {od30 an30 : Option Addr} {sl30 : Array (Option Value)} {oc30 kV30 dc30 pm30 cd30 ct30 : Value}
    {f31 : Addr} {od31 an31 : Option Addr} {sl31 : Array (Option Value)} {oc31 kV31 dc31 pm31 cd31 ct31 : Value}
    {f32 : Addr} {od32 an32 : Option Addr} {sl32 : Array (Option Value)} {oc32 kV32 dc32 pm32 cd32 ct32 : Value}
    {f33 : Addr} {od33 an33 : Option Addr} {sl33 : Array (Option Value)} {oc33 kV33 dc33 pm33 cd33 ct33 : Value}
    {f34 : Addr} {od34 an34 : Option Addr} {sl34 : Array (Option Value)} {oc34 kV34 dc34 pm34 cd34 ct34 : Value}
    {C_Calendar : Addr}
    {p_Calendar_its_telling : Addr}
    {g_Calendar_start : Addr} {r_Calendar_start : List Value}
    {g_Calendar_early : Addr} {r_Calendar_early : List Value}
    {g_Calendar_period : Addr} {r_Calendar_period : List Value}
    {g_Calendar_rests : Addr} {r_Calendar_rests : List Value}
    {g_Calendar_of_steps : Addr} {r_Calendar_of_steps : List Value}
    (q1_Calendar : PySem.W.nsIn K mainGlobals "Calendar" = some (some (.ref C_Calendar)))
    (q2_Calendar : PySem.W.plainGet K C_Calendar Str.empty = true)
    (q3_Calendar : PySem.W.isClsIn K C_Calendar = true)
    (q4_Calendar : PySem.W.plainOver K C_Calendar = true)
    (q5_Calendar : PySem.W.findIn K (.ref C_Calendar) "__setattr__" = some (some (.builtin "object.__setattr__")))
    (a0 : PySem.W.nsIn K mainGlobals "_law_bag" = some (some (.ref f0)))
    (l0 : K.lookup f0 = some ⟨oc0, od0, .func (PySem.W.fnOf "_law_bag" "_law_bag" (defArgs s__law_bag) (defBody s__law_bag) (defScope s__law_bag) .none kV0 dc0 pm0 an0 cd0 ct0), sl0⟩)
    (c0 : PySem.W.codeIn K cd0 "_law_bag" = true)
    (k0 : PySem.W.keepIn K (.ref f0) = true)
    (a1 : PySem.W.nsIn K mainGlobals "plain_telling" = some (some (.ref f1)))
    (l1 : K.lookup f1 = some ⟨oc1, od1, .func (PySem.W.fnOf "plain_telling" "plain_telling" (defArgs s_plain_telling) (defBody s_plain_telling) (defScope s_plain_telling) .none kV1 dc1 pm1 an1 cd1 ct1), sl1⟩)
    (c1 : PySem.W.codeIn K cd1 "plain_telling" = true)
    (k1 : PySem.W.keepIn K (.ref f1) = true)
    (a2 : PySem.W.nsIn K mainGlobals "is_integer" = some (some (.ref f2)))
    (l2 : K.lookup f2 = some ⟨oc2, od2, .func (PySem.W.fnOf "is_integer" "is_integer" (defArgs s_is_integer) (defBody s_is_integer) (defScope s_is_integer) .none kV2 dc2 pm2 an2 cd2 ct2), sl2⟩)
    (c2 : PySem.W.codeIn K cd2 "is_integer" = true)
    (k2 : PySem.W.keepIn K (.ref f2) = true)
    (a3 : PySem.W.nsIn K mainGlobals "is_number" = some (some (.ref f3)))
    (l3 : K.lookup f3 = some ⟨oc3, od3, .func (PySem.W.fnOf "is_number" "is_number" (defArgs s_is_number) (defBody s_is_number) (defScope s_is_number) .none kV3 dc3 pm3 an3 cd3 ct3), sl3⟩)
    (c3 : PySem.W.codeIn K cd3 "is_number" = true)
    (k3 : PySem.W.keepIn K (.ref f3) = true)
    (a4 : PySem.W.nsIn K mainGlobals "are_integers" = some (some (.ref f4)))
    (l4 : K.lookup f4 = some ⟨oc4, od4, .func (PySem.W.fnOf "are_integers" "are_integers" (defArgs s_are_integers) (defBody s_are_integers) (defScope s_are_integers) .none kV4 dc4 pm4 an4 cd4 ct4), sl4⟩)
    (c4 : PySem.W.codeIn K cd4 "are_integers" = true)
    (k4 : PySem.W.keepIn K (.ref f4) = true)
    (a5 : PySem.W.findIn K (.ref C_Calendar) "__init__" = some (some (.ref f5)))
    (b5 : PySem.W.isFn K (.ref f5) = true)
    (e5 : PySem.W.makesIn K C_Calendar = true)
    (h5 : PySem.W.keepIn K (.ref C_Calendar) = true)
    (l5 : K.lookup f5 = some ⟨oc5, od5, .func (PySem.W.fnOf "__init__" "Calendar.__init__" (defArgs s_Calendar___init__) (defBody s_Calendar___init__) (defScope s_Calendar___init__) .none kV5 dc5 pm5 an5 cd5 ct5), sl5⟩)
    (c5 : PySem.W.codeIn K cd5 "Calendar.__init__" = true)
    (k5 : PySem.W.keepIn K (.ref f5) = true)
    (a6 : PySem.W.nsIn K mainGlobals "_law_made" = some (some (.ref f6)))
    (l6 : K.lookup f6 = some ⟨oc6, od6, .func (PySem.W.fnOf "_law_made" "_law_made" (defArgs s__law_made) (defBody s__law_made) (defScope s__law_made) .none kV6 dc6 pm6 an6 cd6 ct6), sl6⟩)
    (c6 : PySem.W.codeIn K cd6 "_law_made" = true)
    (k6 : PySem.W.keepIn K (.ref f6) = true)
    (a7 : PySem.W.nsIn K mainGlobals "_law_take" = some (some (.ref f7)))
    (l7 : K.lookup f7 = some ⟨oc7, od7, .func (PySem.W.fnOf "_law_take" "_law_take" (defArgs s__law_take) (defBody s__law_take) (defScope s__law_take) .none kV7 dc7 pm7 an7 cd7 ct7), sl7⟩)
    (c7 : PySem.W.codeIn K cd7 "_law_take" = true)
    (k7 : PySem.W.keepIn K (.ref f7) = true)
    (a8 : PySem.W.nsIn K mainGlobals "common_multiple" = some (some (.ref f8)))
    (l8 : K.lookup f8 = some ⟨oc8, od8, .func (PySem.W.fnOf "common_multiple" "common_multiple" (defArgs s_common_multiple) (defBody s_common_multiple) (defScope s_common_multiple) .none kV8 dc8 pm8 an8 cd8 ct8), sl8⟩)
    (c8 : PySem.W.codeIn K cd8 "common_multiple" = true)
    (k8 : PySem.W.keepIn K (.ref f8) = true)
    (a9 : PySem.W.nsIn K mainGlobals "is_size" = some (some (.ref f9)))
    (l9 : K.lookup f9 = some ⟨oc9, od9, .func (PySem.W.fnOf "is_size" "is_size" (defArgs s_is_size) (defBody s_is_size) (defScope s_is_size) .none kV9 dc9 pm9 an9 cd9 ct9), sl9⟩)
    (c9 : PySem.W.codeIn K cd9 "is_size" = true)
    (k9 : PySem.W.keepIn K (.ref f9) = true)
    (a10 : PySem.W.nsIn K mainGlobals "joined" = some (some (.ref f10)))
    (l10 : K.lookup f10 = some ⟨oc10, od10, .func (PySem.W.fnOf "joined" "joined" (defArgs s_joined) (defBody s_joined) (defScope s_joined) .none kV10 dc10 pm10 an10 cd10 ct10), sl10⟩)
    (c10 : PySem.W.codeIn K cd10 "joined" = true)
    (k10 : PySem.W.keepIn K (.ref f10) = true)
    (a11 : PySem.W.findIn K (.ref C_Calendar) "__and__" = some (some (.ref f11)))
    (b11 : PySem.W.isFn K (.ref f11) = true)
    (l11 : K.lookup f11 = some ⟨oc11, od11, .func (PySem.W.fnOf "__and__" "Calendar.__and__" (defArgs s_Calendar___and__) (defBody s_Calendar___and__) (defScope s_Calendar___and__) .none kV11 dc11 pm11 an11 cd11 ct11), sl11⟩)
    (c11 : PySem.W.codeIn K cd11 "Calendar.__and__" = true)
    (k11 : PySem.W.keepIn K (.ref f11) = true)
    (a12 : PySem.W.findIn K (.ref C_Calendar) "__invert__" = some (some (.ref f12)))
    (b12 : PySem.W.isFn K (.ref f12) = true)
    (l12 : K.lookup f12 = some ⟨oc12, od12, .func (PySem.W.fnOf "__invert__" "Calendar.__invert__" (defArgs s_Calendar___invert__) (defBody s_Calendar___invert__) (defScope s_Calendar___invert__) .none kV12 dc12 pm12 an12 cd12 ct12), sl12⟩)
    (c12 : PySem.W.codeIn K cd12 "Calendar.__invert__" = true)
    (k12 : PySem.W.keepIn K (.ref f12) = true)
    (a13 : PySem.W.findIn K (.ref C_Calendar) "start" = some (some (.ref g_Calendar_start)))
    (b13 : PySem.W.specialIn K (.ref g_Calendar_start) "__get__" = some (some (.builtin "property.__get__")))
    (e13 : PySem.W.takesIn K (.ref g_Calendar_start) = some true)
    (h13 : PySem.W.recIn K g_Calendar_start "property" = some (.ref f13 :: r_Calendar_start))
    (l13 : K.lookup f13 = some ⟨oc13, od13, .func (PySem.W.fnOf "start" "Calendar.start" (defArgs s_Calendar_start) (defBody s_Calendar_start) (defScope s_Calendar_start) .none kV13 dc13 pm13 an13 cd13 ct13), sl13⟩)
    (c13 : PySem.W.codeIn K cd13 "Calendar.start" = true)
    (k13 : PySem.W.keepIn K (.ref f13) = true)
    (a14 : PySem.W.findIn K (.ref C_Calendar) "early" = some (some (.ref g_Calendar_early)))
    (b14 : PySem.W.specialIn K (.ref g_Calendar_early) "__get__" = some (some (.builtin "property.__get__")))
    (e14 : PySem.W.takesIn K (.ref g_Calendar_early) = some true)
    (h14 : PySem.W.recIn K g_Calendar_early "property" = some (.ref f14 :: r_Calendar_early))
    (l14 : K.lookup f14 = some ⟨oc14, od14, .func (PySem.W.fnOf "early" "Calendar.early" (defArgs s_Calendar_early) (defBody s_Calendar_early) (defScope s_Calendar_early) .none kV14 dc14 pm14 an14 cd14 ct14), sl14⟩)
    (c14 : PySem.W.codeIn K cd14 "Calendar.early" = true)
    (k14 : PySem.W.keepIn K (.ref f14) = true)
    (a15 : PySem.W.findIn K (.ref C_Calendar) "period" = some (some (.ref g_Calendar_period)))
    (b15 : PySem.W.specialIn K (.ref g_Calendar_period) "__get__" = some (some (.builtin "property.__get__")))
    (e15 : PySem.W.takesIn K (.ref g_Calendar_period) = some true)
    (h15 : PySem.W.recIn K g_Calendar_period "property" = some (.ref f15 :: r_Calendar_period))
    (l15 : K.lookup f15 = some ⟨oc15, od15, .func (PySem.W.fnOf "period" "Calendar.period" (defArgs s_Calendar_period) (defBody s_Calendar_period) (defScope s_Calendar_period) .none kV15 dc15 pm15 an15 cd15 ct15), sl15⟩)
    (c15 : PySem.W.codeIn K cd15 "Calendar.period" = true)
    (k15 : PySem.W.keepIn K (.ref f15) = true)
    (a16 : PySem.W.findIn K (.ref C_Calendar) "rests" = some (some (.ref g_Calendar_rests)))
    (b16 : PySem.W.specialIn K (.ref g_Calendar_rests) "__get__" = some (some (.builtin "property.__get__")))
    (e16 : PySem.W.takesIn K (.ref g_Calendar_rests) = some true)
    (h16 : PySem.W.recIn K g_Calendar_rests "property" = some (.ref f16 :: r_Calendar_rests))
    (l16 : K.lookup f16 = some ⟨oc16, od16, .func (PySem.W.fnOf "rests" "Calendar.rests" (defArgs s_Calendar_rests) (defBody s_Calendar_rests) (defScope s_Calendar_rests) .none kV16 dc16 pm16 an16 cd16 ct16), sl16⟩)
    (c16 : PySem.W.codeIn K cd16 "Calendar.rests" = true)
    (k16 : PySem.W.keepIn K (.ref f16) = true)
    (a17 : PySem.W.nsIn K mainGlobals "_law_telling" = some (some (.ref f17)))
    (l17 : K.lookup f17 = some ⟨oc17, od17, .func (PySem.W.fnOf "_law_telling" "_law_telling" (defArgs s__law_telling) (defBody s__law_telling) (defScope s__law_telling) .none kV17 dc17 pm17 an17 cd17 ct17), sl17⟩)
    (c17 : PySem.W.codeIn K cd17 "_law_telling" = true)
    (k17 : PySem.W.keepIn K (.ref f17) = true)
    (a18 : PySem.W.nsIn K mainGlobals "_law_calendar" = some (some (.ref f18)))
    (l18 : K.lookup f18 = some ⟨oc18, od18, .func (PySem.W.fnOf "_law_calendar" "_law_calendar" (defArgs s__law_calendar) (defBody s__law_calendar) (defScope s__law_calendar) .none kV18 dc18 pm18 an18 cd18 ct18), sl18⟩)
    (c18 : PySem.W.codeIn K cd18 "_law_calendar" = true)
    (k18 : PySem.W.keepIn K (.ref f18) = true)
    (a19 : PySem.W.nsIn K mainGlobals "step_sums" = some (some (.ref f19)))
    (l19 : K.lookup f19 = some ⟨oc19, od19, .func (PySem.W.fnOf "step_sums" "step_sums" (defArgs s_step_sums) (defBody s_step_sums) (defScope s_step_sums) .none kV19 dc19 pm19 an19 cd19 ct19), sl19⟩)
    (c19 : PySem.W.codeIn K cd19 "step_sums" = true)
    (k19 : PySem.W.keepIn K (.ref f19) = true)
    (a20 : PySem.W.nsIn K mainGlobals "greatest_divisor" = some (some (.ref f20)))
    (l20 : K.lookup f20 = some ⟨oc20, od20, .func (PySem.W.fnOf "greatest_divisor" "greatest_divisor" (defArgs s_greatest_divisor) (defBody s_greatest_divisor) (defScope s_greatest_divisor) .none kV20 dc20 pm20 an20 cd20 ct20), sl20⟩)
    (c20 : PySem.W.codeIn K cd20 "greatest_divisor" = true)
    (k20 : PySem.W.keepIn K (.ref f20) = true)
    (a21 : PySem.W.findCls K (.ref C_Calendar) (.type "type") "of_steps" = some (.get (.builtin "staticmethod.__get__") (.ref g_Calendar_of_steps) .none (.ref C_Calendar)))
    (b21 : PySem.W.readsIn K C_Calendar (.type "type") = true)
    (e21 : PySem.W.specialIn K (.ref C_Calendar) "__getattribute__" = some (some (.builtin "type.__getattribute__")))
    (h21 : PySem.W.recIn K g_Calendar_of_steps "staticmethod" = some (.ref f21 :: r_Calendar_of_steps))
    (l21 : K.lookup f21 = some ⟨oc21, od21, .func (PySem.W.fnOf "of_steps" "Calendar.of_steps" (defArgs s_Calendar_of_steps) (defBody s_Calendar_of_steps) (defScope s_Calendar_of_steps) .none kV21 dc21 pm21 an21 cd21 ct21), sl21⟩)
    (c21 : PySem.W.codeIn K cd21 "Calendar.of_steps" = true)
    (k21 : PySem.W.keepIn K (.ref f21) = true)
    (a22 : PySem.W.findIn K (.ref C_Calendar) "__or__" = some (some (.ref f22)))
    (b22 : PySem.W.isFn K (.ref f22) = true)
    (l22 : K.lookup f22 = some ⟨oc22, od22, .func (PySem.W.fnOf "__or__" "Calendar.__or__" (defArgs s_Calendar___or__) (defBody s_Calendar___or__) (defScope s_Calendar___or__) .none kV22 dc22 pm22 an22 cd22 ct22), sl22⟩)
    (c22 : PySem.W.codeIn K cd22 "Calendar.__or__" = true)
    (k22 : PySem.W.keepIn K (.ref f22) = true)
    (a23 : PySem.W.findIn K (.ref C_Calendar) "__xor__" = some (some (.ref f23)))
    (b23 : PySem.W.isFn K (.ref f23) = true)
    (l23 : K.lookup f23 = some ⟨oc23, od23, .func (PySem.W.fnOf "__xor__" "Calendar.__xor__" (defArgs s_Calendar___xor__) (defBody s_Calendar___xor__) (defScope s_Calendar___xor__) .none kV23 dc23 pm23 an23 cd23 ct23), sl23⟩)
    (c23 : PySem.W.codeIn K cd23 "Calendar.__xor__" = true)
    (k23 : PySem.W.keepIn K (.ref f23) = true)
    (a24 : PySem.W.findIn K (.ref C_Calendar) "__eq__" = some (some (.ref f24)))
    (b24 : PySem.W.isFn K (.ref f24) = true)
    (l24 : K.lookup f24 = some ⟨oc24, od24, .func (PySem.W.fnOf "__eq__" "Calendar.__eq__" (defArgs s_Calendar___eq__) (defBody s_Calendar___eq__) (defScope s_Calendar___eq__) .none kV24 dc24 pm24 an24 cd24 ct24), sl24⟩)
    (c24 : PySem.W.codeIn K cd24 "Calendar.__eq__" = true)
    (k24 : PySem.W.keepIn K (.ref f24) = true)
    (a25 : PySem.W.findIn K (.ref C_Calendar) "within" = some (some (.ref f25)))
    (b25 : PySem.W.isFn K (.ref f25) = true)
    (l25 : K.lookup f25 = some ⟨oc25, od25, .func (PySem.W.fnOf "within" "Calendar.within" (defArgs s_Calendar_within) (defBody s_Calendar_within) (defScope s_Calendar_within) .none kV25 dc25 pm25 an25 cd25 ct25), sl25⟩)
    (c25 : PySem.W.codeIn K cd25 "Calendar.within" = true)
    (k25 : PySem.W.keepIn K (.ref f25) = true)
    (a26 : PySem.W.nsIn K mainGlobals "_law_long" = some (some (.ref f26)))
    (l26 : K.lookup f26 = some ⟨oc26, od26, .func (PySem.W.fnOf "_law_long" "_law_long" (defArgs s__law_long) (defBody s__law_long) (defScope s__law_long) .none kV26 dc26 pm26 an26 cd26 ct26), sl26⟩)
    (c26 : PySem.W.codeIn K cd26 "_law_long" = true)
    (k26 : PySem.W.keepIn K (.ref f26) = true)
    (a27 : PySem.W.nsIn K mainGlobals "count_rest" = some (some (.ref f27)))
    (l27 : K.lookup f27 = some ⟨oc27, od27, .func (PySem.W.fnOf "count_rest" "count_rest" (defArgs s_count_rest) (defBody s_count_rest) (defScope s_count_rest) .none kV27 dc27 pm27 an27 cd27 ct27), sl27⟩)
    (c27 : PySem.W.codeIn K cd27 "count_rest" = true)
    (k27 : PySem.W.keepIn K (.ref f27) = true)
    (a28 : PySem.W.findIn K (.ref C_Calendar) "many_below" = some (some (.ref f28)))
    (b28 : PySem.W.isFn K (.ref f28) = true)
    (l28 : K.lookup f28 = some ⟨oc28, od28, .func (PySem.W.fnOf "many_below" "Calendar.many_below" (defArgs s_Calendar_many_below) (defBody s_Calendar_many_below) (defScope s_Calendar_many_below) .none kV28 dc28 pm28 an28 cd28 ct28), sl28⟩)
    (c28 : PySem.W.codeIn K cd28 "Calendar.many_below" = true)
    (k28 : PySem.W.keepIn K (.ref f28) = true)
    (a29 : PySem.W.findIn K (.ref C_Calendar) "least_from" = some (some (.ref f29)))
    (b29 : PySem.W.isFn K (.ref f29) = true)
    (l29 : K.lookup f29 = some ⟨oc29, od29, .func (PySem.W.fnOf "least_from" "Calendar.least_from" (defArgs s_Calendar_least_from) (defBody s_Calendar_least_from) (defScope s_Calendar_least_from) .none kV29 dc29 pm29 an29 cd29 ct29), sl29⟩)
    (c29 : PySem.W.codeIn K cd29 "Calendar.least_from" = true)
    (k29 : PySem.W.keepIn K (.ref f29) = true)
    (a30 : PySem.W.findIn K (.ref C_Calendar) "gap_from" = some (some (.ref f30)))
    (b30 : PySem.W.isFn K (.ref f30) = true)
    (l30 : K.lookup f30 = some ⟨oc30, od30, .func (PySem.W.fnOf "gap_from" "Calendar.gap_from" (defArgs s_Calendar_gap_from) (defBody s_Calendar_gap_from) (defScope s_Calendar_gap_from) .none kV30 dc30 pm30 an30 cd30 ct30), sl30⟩)
    (c30 : PySem.W.codeIn K cd30 "Calendar.gap_from" = true)
    (k30 : PySem.W.keepIn K (.ref f30) = true)
    (a31 : PySem.W.findIn K (.ref C_Calendar) "__contains__" = some (some (.ref f31)))
    (b31 : PySem.W.isFn K (.ref f31) = true)
    (l31 : K.lookup f31 = some ⟨oc31, od31, .func (PySem.W.fnOf "__contains__" "Calendar.__contains__" (defArgs s_Calendar___contains__) (defBody s_Calendar___contains__) (defScope s_Calendar___contains__) .none kV31 dc31 pm31 an31 cd31 ct31), sl31⟩)
    (c31 : PySem.W.codeIn K cd31 "Calendar.__contains__" = true)
    (k31 : PySem.W.keepIn K (.ref f31) = true)
    (a32 : PySem.W.findIn K (.ref C_Calendar) "nth" = some (some (.ref f32)))
    (b32 : PySem.W.isFn K (.ref f32) = true)
    (l32 : K.lookup f32 = some ⟨oc32, od32, .func (PySem.W.fnOf "nth" "Calendar.nth" (defArgs s_Calendar_nth) (defBody s_Calendar_nth) (defScope s_Calendar_nth) .none kV32 dc32 pm32 an32 cd32 ct32), sl32⟩)
    (c32 : PySem.W.codeIn K cd32 "Calendar.nth" = true)
    (k32 : PySem.W.keepIn K (.ref f32) = true)
    (a33 : PySem.W.nsIn K mainGlobals "_law_walk_right" = some (some (.ref f33)))
    (l33 : K.lookup f33 = some ⟨oc33, od33, .func (PySem.W.fnOf "_law_walk_right" "_law_walk_right" (defArgs s__law_walk_right) (defBody s__law_walk_right) (defScope s__law_walk_right) .none kV33 dc33 pm33 an33 cd33 ct33), sl33⟩)
    (c33 : PySem.W.codeIn K cd33 "_law_walk_right" = true)
    (k33 : PySem.W.keepIn K (.ref f33) = true)
    (a34 : PySem.W.nsIn K mainGlobals "law" = some (some (.ref f34)))
    (l34 : K.lookup f34 = some ⟨oc34, od34, .func (PySem.W.fnOf "law" "law" (defArgs s_law) (defBody s_law) (defScope s_law) .none kV34 dc34 pm34 an34 cd34 ct34), sl34⟩)
    (c34 : PySem.W.codeIn K cd34 "law" = true)
    (k34 : PySem.W.keepIn K (.ref f34) = true)
    (n1_Calendar : PySem.W.mroIn K C_Calendar (.type "object") = some true)
    (n2_Calendar : PySem.W.findIn K (.ref C_Calendar) "__ne__" = some (some (.builtin "object.__ne__")))
    (f2_Calendar : PySem.W.selfFirst K C_Calendar = true)
    (i1_Calendar : PySem.W.findIn K (.ref C_Calendar) "__class__" = some (some (.builtin "object.__class__")))
    (i2_Calendar : PySem.W.specialIn K (.builtin "object.__class__") "__get__" = some (some (.builtin "getset_descriptor.__get__")))
    (i3_Calendar : PySem.W.takesIn K (.builtin "object.__class__") = some true)
    (i4_Calendar : PySem.W.mroIn K C_Calendar (.type "object") = some true)
    (j0_Calendar : PySem.W.subIn K (.type "NoneType") (.ref C_Calendar) = some false)
    (j1_Calendar : PySem.W.subIn K (.type "bool") (.ref C_Calendar) = some false)
    (j2_Calendar : PySem.W.subIn K (.type "int") (.ref C_Calendar) = some false)
    (j3_Calendar : PySem.W.subIn K (.type "str") (.ref C_Calendar) = some false)
    (j4_Calendar : PySem.W.subIn K (.type "list") (.ref C_Calendar) = some false)
    (j5_Calendar : PySem.W.subIn K (.type "tuple") (.ref C_Calendar) = some false)
    (j6_Calendar : PySem.W.subIn K (.type "dict") (.ref C_Calendar) = some false)
    (i5_Calendar : PySem.W.typeIn K (.ref C_Calendar) = some (.type "type"))
    (s1_Calendar_its_telling : PySem.W.findIn K (.ref C_Calendar) "its_telling" = some (some (.ref p_Calendar_its_telling)))
    (s2_Calendar_its_telling : PySem.W.specialIn K (.ref p_Calendar_its_telling) "__get__" = some (some (.builtin "member_descriptor.__get__")))
    (s3_Calendar_its_telling : PySem.W.takesIn K (.ref p_Calendar_its_telling) = some true)
    (s4_Calendar_its_telling : PySem.W.typeIn K (.ref p_Calendar_its_telling) = some (.type "member_descriptor"))
    (s5_Calendar_its_telling : PySem.W.slotIn K p_Calendar_its_telling C_Calendar = some 0)
    (z_abs : PySem.W.nsIn K mainGlobals "abs" = some none)
    (z_all : PySem.W.nsIn K mainGlobals "all" = some none)
    (z_any : PySem.W.nsIn K mainGlobals "any" = some none)
    (z_bool : PySem.W.nsIn K mainGlobals "bool" = some none)
    (z_int : PySem.W.nsIn K mainGlobals "int" = some none)
    (z_isinstance : PySem.W.nsIn K mainGlobals "isinstance" = some none)
    (z_len : PySem.W.nsIn K mainGlobals "len" = some none)
    (z_list : PySem.W.nsIn K mainGlobals "list" = some none)
    (z_max : PySem.W.nsIn K mainGlobals "max" = some none)
    (z_min : PySem.W.nsIn K mainGlobals "min" = some none)
    (z_range : PySem.W.nsIn K mainGlobals "range" = some none)
    (z_set : PySem.W.nsIn K mainGlobals "set" = some none)
    (z_sorted : PySem.W.nsIn K mainGlobals "sorted" = some none)
    (z_sum : PySem.W.nsIn K mainGlobals "sum" = some none)
    (z_tuple : PySem.W.nsIn K mainGlobals "tuple" = some none)
    : ∃ fd : FuncData, (∀ (s : Shared) (u : Value), BindsTo s fd ⟨[u], []⟩ [("_law_script", u)]) ∧ ∀ base : Heap, K.In base → base.Ns mainGlobals mg → FnG l.prog w K mg base 8 fa fd ["_law_script"] (spLaw K) := by
  have e := (Value.ref.inj (Option.some.inj (hfa.symm.trans (PySem.W.mg_of X G a34)))).symm
  subst e
  have T : Txt K mg ⟨f0, PySem.W.fnOf "_law_bag" "_law_bag" (defArgs s__law_bag) (defBody s__law_bag) (defScope s__law_bag) .none kV0 dc0 pm0 an0 cd0 ct0, f1, PySem.W.fnOf "plain_telling" "plain_telling" (defArgs s_plain_telling) (defBody s_plain_telling) (defScope s_plain_telling) .none kV1 dc1 pm1 an1 cd1 ct1, f2, PySem.W.fnOf "is_integer" "is_integer" (defArgs s_is_integer) (defBody s_is_integer) (defScope s_is_integer) .none kV2 dc2 pm2 an2 cd2 ct2, f3, PySem.W.fnOf "is_number" "is_number" (defArgs s_is_number) (defBody s_is_number) (defScope s_is_number) .none kV3 dc3 pm3 an3 cd3 ct3, f4, PySem.W.fnOf "are_integers" "are_integers" (defArgs s_are_integers) (defBody s_are_integers) (defScope s_are_integers) .none kV4 dc4 pm4 an4 cd4 ct4, f5, PySem.W.fnOf "__init__" "Calendar.__init__" (defArgs s_Calendar___init__) (defBody s_Calendar___init__) (defScope s_Calendar___init__) .none kV5 dc5 pm5 an5 cd5 ct5, f6, PySem.W.fnOf "_law_made" "_law_made" (defArgs s__law_made) (defBody s__law_made) (defScope s__law_made) .none kV6 dc6 pm6 an6 cd6 ct6, f7, PySem.W.fnOf "_law_take" "_law_take" (defArgs s__law_take) (defBody s__law_take) (defScope s__law_take) .none kV7 dc7 pm7 an7 cd7 ct7, f8, PySem.W.fnOf "common_multiple" "common_multiple" (defArgs s_common_multiple) (defBody s_common_multiple) (defScope s_common_multiple) .none kV8 dc8 pm8 an8 cd8 ct8, f9, PySem.W.fnOf "is_size" "is_size" (defArgs s_is_size) (defBody s_is_size) (defScope s_is_size) .none kV9 dc9 pm9 an9 cd9 ct9, f10, PySem.W.fnOf "joined" "joined" (defArgs s_joined) (defBody s_joined) (defScope s_joined) .none kV10 dc10 pm10 an10 cd10 ct10, f11, PySem.W.fnOf "__and__" "Calendar.__and__" (defArgs s_Calendar___and__) (defBody s_Calendar___and__) (defScope s_Calendar___and__) .none kV11 dc11 pm11 an11 cd11 ct11, f12, PySem.W.fnOf "__invert__" "Calendar.__invert__" (defArgs s_Calendar___invert__) (defBody s_Calendar___invert__) (defScope s_Calendar___invert__) .none kV12 dc12 pm12 an12 cd12 ct12, f13, PySem.W.fnOf "start" "Calendar.start" (defArgs s_Calendar_start) (defBody s_Calendar_start) (defScope s_Calendar_start) .none kV13 dc13 pm13 an13 cd13 ct13, f14, PySem.W.fnOf "early" "Calendar.early" (defArgs s_Calendar_early) (defBody s_Calendar_early) (defScope s_Calendar_early) .none kV14 dc14 pm14 an14 cd14 ct14, f15, PySem.W.fnOf "period" "Calendar.period" (defArgs s_Calendar_period) (defBody s_Calendar_period) (defScope s_Calendar_period) .none kV15 dc15 pm15 an15 cd15 ct15, f16, PySem.W.fnOf "rests" "Calendar.rests" (defArgs s_Calendar_rests) (defBody s_Calendar_rests) (defScope s_Calendar_rests) .none kV16 dc16 pm16 an16 cd16 ct16, f17, PySem.W.fnOf "_law_telling" "_law_telling" (defArgs s__law_telling) (defBody s__law_telling) (defScope s__law_telling) .none kV17 dc17 pm17 an17 cd17 ct17, f18, PySem.W.fnOf "_law_calendar" "_law_calendar" (defArgs s__law_calendar) (defBody s__law_calendar) (defScope s__law_calendar) .none kV18 dc18 pm18 an18 cd18 ct18, f19, PySem.W.fnOf "step_sums" "step_sums" (defArgs s_step_sums) (defBody s_step_sums) (defScope s_step_sums) .none kV19 dc19 pm19 an19 cd19 ct19, f20, PySem.W.fnOf "greatest_divisor" "greatest_divisor" (defArgs s_greatest_divisor) (defBody s_greatest_divisor) (defScope s_greatest_divisor) .none kV20 dc20 pm20 an20 cd20 ct20, f21, PySem.W.fnOf "of_steps" "Calendar.of_steps" (defArgs s_Calendar_of_steps) (defBody s_Calendar_of_steps) (defScope s_Calendar_of_steps) .none kV21 dc21 pm21 an21 cd21 ct21, f22, PySem.W.fnOf "__or__" "Calendar.__or__" (defArgs s_Calendar___or__) (defBody s_Calendar___or__) (defScope s_Calendar___or__) .none kV22 dc22 pm22 an22 cd22 ct22, f23, PySem.W.fnOf "__xor__" "Calendar.__xor__" (defArgs s_Calendar___xor__) (defBody s_Calendar___xor__) (defScope s_Calendar___xor__) .none kV23 dc23 pm23 an23 cd23 ct23, f24, PySem.W.fnOf "__eq__" "Calendar.__eq__" (defArgs s_Calendar___eq__) (defBody s_Calendar___eq__) (defScope s_Calendar___eq__) .none kV24 dc24 pm24 an24 cd24 ct24, f25, PySem.W.fnOf "within" "Calendar.within" (defArgs s_Calendar_within) (defBody s_Calendar_within) (defScope s_Calendar_within) .none kV25 dc25 pm25 an25 cd25 ct25, f26, PySem.W.fnOf "_law_long" "_law_long" (defArgs s__law_long) (defBody s__law_long) (defScope s__law_long) .none kV26 dc26 pm26 an26 cd26 ct26, f27, PySem.W.fnOf "count_rest" "count_rest" (defArgs s_count_rest) (defBody s_count_rest) (defScope s_count_rest) .none kV27 dc27 pm27 an27 cd27 ct27, f28, PySem.W.fnOf "many_below" "Calendar.many_below" (defArgs s_Calendar_many_below) (defBody s_Calendar_many_below) (defScope s_Calendar_many_below) .none kV28 dc28 pm28 an28 cd28 ct28, f29, PySem.W.fnOf "least_from" "Calendar.least_from" (defArgs s_Calendar_least_from) (defBody s_Calendar_least_from) (defScope s_Calendar_least_from) .none kV29 dc29 pm29 an29 cd29 ct29, f30, PySem.W.fnOf "gap_from" "Calendar.gap_from" (defArgs s_Calendar_gap_from) (defBody s_Calendar_gap_from) (defScope s_Calendar_gap_from) .none kV30 dc30 pm30 an30 cd30 ct30, f31, PySem.W.fnOf "__contains__" "Calendar.__contains__" (defArgs s_Calendar___contains__) (defBody s_Calendar___contains__) (defScope s_Calendar___contains__) .none kV31 dc31 pm31 an31 cd31 ct31, f32, PySem.W.fnOf "nth" "Calendar.nth" (defArgs s_Calendar_nth) (defBody s_Calendar_nth) (defScope s_Calendar_nth) .none kV32 dc32 pm32 an32 cd32 ct32, f33, PySem.W.fnOf "_law_walk_right" "_law_walk_right" (defArgs s__law_walk_right) (defBody s__law_walk_right) (defScope s__law_walk_right) .none kV33 dc33 pm33 an33 cd33 ct33, f34, PySem.W.fnOf "law" "law" (defArgs s_law) (defBody s_law) (defScope s_law) .none kV34 dc34 pm34 an34 cd34 ct34, C_Calendar, p_Calendar_its_telling, g_Calendar_start, g_Calendar_early, g_Calendar_period, g_Calendar_rests, g_Calendar_of_steps⟩ :=
    ⟨⟨fun_mk (st := s__law_bag) l0 c0 k0, (fun_mk (st := s__law_bag) l0 c0 k0).binds (ps := ["_law_script"]) fun _ _ _ _ _ _ us hl => match us, hl with | [_], _ => rfl, PySem.W.mg_of X G a0⟩,
    ⟨fun_mk (st := s_plain_telling) l1 c1 k1, (fun_mk (st := s_plain_telling) l1 c1 k1).binds (ps := ["told"]) fun _ _ _ _ _ _ us hl => match us, hl with | [_], _ => rfl, PySem.W.mg_of X G a1⟩,
    ⟨fun_mk (st := s_is_integer) l2 c2 k2, (fun_mk (st := s_is_integer) l2 c2 k2).binds (ps := ["thing"]) fun _ _ _ _ _ _ us hl => match us, hl with | [_], _ => rfl, PySem.W.mg_of X G a2⟩,
    ⟨fun_mk (st := s_is_number) l3 c3 k3, (fun_mk (st := s_is_number) l3 c3 k3).binds (ps := ["thing"]) fun _ _ _ _ _ _ us hl => match us, hl with | [_], _ => rfl, PySem.W.mg_of X G a3⟩,
    ⟨fun_mk (st := s_are_integers) l4 c4 k4, (fun_mk (st := s_are_integers) l4 c4 k4).binds (ps := ["thing", "low", "high"]) fun _ _ _ _ _ _ us hl => match us, hl with | [_, _, _], _ => rfl, PySem.W.mg_of X G a4⟩,
    ⟨funV_mk (st := s_Calendar___init__) l5 c5 k5, Binds.all (fun us hl => match us, hl with | [_, _, _, _, _], _ => rfl), ⟨e5, a5, b5, h5⟩⟩,
    ⟨fun_mk (st := s__law_made) l6 c6 k6, (fun_mk (st := s__law_made) l6 c6 k6).binds (ps := ["_law_told"]) fun _ _ _ _ _ _ us hl => match us, hl with | [_], _ => rfl, PySem.W.mg_of X G a6⟩,
    ⟨fun_mk (st := s__law_take) l7 c7 k7, (fun_mk (st := s__law_take) l7 c7 k7).binds (ps := ["_law_bag_here", "_law_many"]) fun _ _ _ _ _ _ us hl => match us, hl with | [_, _], _ => rfl, PySem.W.mg_of X G a7⟩,
    ⟨fun_mk (st := s_common_multiple) l8 c8 k8, (fun_mk (st := s_common_multiple) l8 c8 k8).binds (ps := ["one", "other"]) fun _ _ _ _ _ _ us hl => match us, hl with | [_, _], _ => rfl, PySem.W.mg_of X G a8⟩,
    ⟨fun_mk (st := s_is_size) l9 c9 k9, (fun_mk (st := s_is_size) l9 c9 k9).binds (ps := ["told", "number"]) fun _ _ _ _ _ _ us hl => match us, hl with | [_, _], _ => rfl, PySem.W.mg_of X G a9⟩,
    ⟨fun_mk (st := s_joined) l10 c10 k10, (fun_mk (st := s_joined) l10 c10 k10).binds (ps := ["one", "other", "table"]) fun _ _ _ _ _ _ us hl => match us, hl with | [_, _, _], _ => rfl, PySem.W.mg_of X G a10⟩,
    ⟨fun_mk (st := s_Calendar___and__) l11 c11 k11, (fun_mk (st := s_Calendar___and__) l11 c11 k11).binds (ps := ["self", "other"]) fun _ _ _ _ _ _ us hl => match us, hl with | [_, _], _ => rfl, ⟨a11, b11, k11⟩⟩,
    ⟨fun_mk (st := s_Calendar___invert__) l12 c12 k12, (fun_mk (st := s_Calendar___invert__) l12 c12 k12).binds (ps := ["self"]) fun _ _ _ _ _ _ us hl => match us, hl with | [_], _ => rfl, ⟨a12, b12, k12⟩⟩,
    ⟨fun_mk (st := s_Calendar_start) l13 c13 k13, (fun_mk (st := s_Calendar_start) l13 c13 k13).binds (ps := ["self"]) fun _ _ _ _ _ _ us hl => match us, hl with | [_], _ => rfl, ⟨a13, b13, e13, ⟨_, h13⟩⟩⟩,
    ⟨fun_mk (st := s_Calendar_early) l14 c14 k14, (fun_mk (st := s_Calendar_early) l14 c14 k14).binds (ps := ["self"]) fun _ _ _ _ _ _ us hl => match us, hl with | [_], _ => rfl, ⟨a14, b14, e14, ⟨_, h14⟩⟩⟩,
    ⟨fun_mk (st := s_Calendar_period) l15 c15 k15, (fun_mk (st := s_Calendar_period) l15 c15 k15).binds (ps := ["self"]) fun _ _ _ _ _ _ us hl => match us, hl with | [_], _ => rfl, ⟨a15, b15, e15, ⟨_, h15⟩⟩⟩,
    ⟨fun_mk (st := s_Calendar_rests) l16 c16 k16, (fun_mk (st := s_Calendar_rests) l16 c16 k16).binds (ps := ["self"]) fun _ _ _ _ _ _ us hl => match us, hl with | [_], _ => rfl, ⟨a16, b16, e16, ⟨_, h16⟩⟩⟩,
    ⟨fun_mk (st := s__law_telling) l17 c17 k17, (fun_mk (st := s__law_telling) l17 c17 k17).binds (ps := ["_law_calendar_here"]) fun _ _ _ _ _ _ us hl => match us, hl with | [_], _ => rfl, PySem.W.mg_of X G a17⟩,
    ⟨fun_mk (st := s__law_calendar) l18 c18 k18, (fun_mk (st := s__law_calendar) l18 c18 k18).binds (ps := ["_law_bag_here"]) fun _ _ _ _ _ _ us hl => match us, hl with | [_], _ => rfl, PySem.W.mg_of X G a18⟩,
    ⟨fun_mk (st := s_step_sums) l19 c19 k19, (fun_mk (st := s_step_sums) l19 c19 k19).binds (ps := ["steps", "most"]) fun _ _ _ _ _ _ us hl => match us, hl with | [_, _], _ => rfl, PySem.W.mg_of X G a19⟩,
    ⟨fun_mk (st := s_greatest_divisor) l20 c20 k20, (fun_mk (st := s_greatest_divisor) l20 c20 k20).binds (ps := ["numbers"]) fun _ _ _ _ _ _ us hl => match us, hl with | [_], _ => rfl, PySem.W.mg_of X G a20⟩,
    ⟨fun_mk (st := s_Calendar_of_steps) l21 c21 k21, (fun_mk (st := s_Calendar_of_steps) l21 c21 k21).binds (ps := ["steps"]) fun _ _ _ _ _ _ us hl => match us, hl with | [_], _ => rfl, ⟨b21, e21, a21, ⟨_, h21⟩, k21⟩⟩,
    ⟨fun_mk (st := s_Calendar___or__) l22 c22 k22, (fun_mk (st := s_Calendar___or__) l22 c22 k22).binds (ps := ["self", "other"]) fun _ _ _ _ _ _ us hl => match us, hl with | [_, _], _ => rfl, ⟨a22, b22, k22⟩⟩,
    ⟨fun_mk (st := s_Calendar___xor__) l23 c23 k23, (fun_mk (st := s_Calendar___xor__) l23 c23 k23).binds (ps := ["self", "other"]) fun _ _ _ _ _ _ us hl => match us, hl with | [_, _], _ => rfl, ⟨a23, b23, k23⟩⟩,
    ⟨fun_mk (st := s_Calendar___eq__) l24 c24 k24, (fun_mk (st := s_Calendar___eq__) l24 c24 k24).binds (ps := ["self", "other"]) fun _ _ _ _ _ _ us hl => match us, hl with | [_, _], _ => rfl, ⟨a24, b24, k24⟩⟩,
    ⟨fun_mk (st := s_Calendar_within) l25 c25 k25, (fun_mk (st := s_Calendar_within) l25 c25 k25).binds (ps := ["self", "other"]) fun _ _ _ _ _ _ us hl => match us, hl with | [_, _], _ => rfl, ⟨a25, b25, k25⟩⟩,
    ⟨fun_mk (st := s__law_long) l26 c26 k26, (fun_mk (st := s__law_long) l26 c26 k26).binds (ps := ["_law_bag_here"]) fun _ _ _ _ _ _ us hl => match us, hl with | [_], _ => rfl, PySem.W.mg_of X G a26⟩,
    ⟨fun_mk (st := s_count_rest) l27 c27 k27, (fun_mk (st := s_count_rest) l27 c27 k27).binds (ps := ["start", "number", "period", "rest"]) fun _ _ _ _ _ _ us hl => match us, hl with | [_, _, _, _], _ => rfl, PySem.W.mg_of X G a27⟩,
    ⟨fun_mk (st := s_Calendar_many_below) l28 c28 k28, (fun_mk (st := s_Calendar_many_below) l28 c28 k28).binds (ps := ["self", "number"]) fun _ _ _ _ _ _ us hl => match us, hl with | [_, _], _ => rfl, ⟨a28, b28, k28⟩⟩,
    ⟨fun_mk (st := s_Calendar_least_from) l29 c29 k29, (fun_mk (st := s_Calendar_least_from) l29 c29 k29).binds (ps := ["self", "number"]) fun _ _ _ _ _ _ us hl => match us, hl with | [_, _], _ => rfl, ⟨a29, b29, k29⟩⟩,
    ⟨fun_mk (st := s_Calendar_gap_from) l30 c30 k30, (fun_mk (st := s_Calendar_gap_from) l30 c30 k30).binds (ps := ["self", "number"]) fun _ _ _ _ _ _ us hl => match us, hl with | [_, _], _ => rfl, ⟨a30, b30, k30⟩⟩,
    ⟨fun_mk (st := s_Calendar___contains__) l31 c31 k31, (fun_mk (st := s_Calendar___contains__) l31 c31 k31).binds (ps := ["self", "thing"]) fun _ _ _ _ _ _ us hl => match us, hl with | [_, _], _ => rfl, ⟨a31, b31, k31⟩⟩,
    ⟨fun_mk (st := s_Calendar_nth) l32 c32 k32, (fun_mk (st := s_Calendar_nth) l32 c32 k32).binds (ps := ["self", "place"]) fun _ _ _ _ _ _ us hl => match us, hl with | [_, _], _ => rfl, ⟨a32, b32, k32⟩⟩,
    ⟨fun_mk (st := s__law_walk_right) l33 c33 k33, (fun_mk (st := s__law_walk_right) l33 c33 k33).binds (ps := ["_law_one", "_law_number"]) fun _ _ _ _ _ _ us hl => match us, hl with | [_, _], _ => rfl, PySem.W.mg_of X G a33⟩,
    ⟨fun_mk (st := s_law) l34 c34 k34, (fun_mk (st := s_law) l34 c34 k34).binds (ps := ["_law_script"]) fun _ _ _ _ _ _ us hl => match us, hl with | [_], _ => rfl, PySem.W.mg_of X G a34⟩,
    ⟨q1_Calendar, PySem.W.mg_of X G q1_Calendar, ⟨q2_Calendar, q3_Calendar, q4_Calendar, q5_Calendar⟩⟩,
    ⟨n1_Calendar, n2_Calendar⟩,
    f2_Calendar,
    ⟨⟨i1_Calendar, i2_Calendar, i3_Calendar, i4_Calendar⟩, q3_Calendar, i5_Calendar, j0_Calendar, j1_Calendar, j2_Calendar, j3_Calendar, j4_Calendar, j5_Calendar, j6_Calendar⟩,
    ⟨s1_Calendar_its_telling, s2_Calendar_its_telling, s3_Calendar_its_telling, s4_Calendar_its_telling, s5_Calendar_its_telling, by decide⟩,
    PySem.W.mg_none_of X G z_abs,
    PySem.W.mg_none_of X G z_all,
    PySem.W.mg_none_of X G z_any,
    PySem.W.mg_none_of X G z_bool,
    PySem.W.mg_none_of X G z_int,
    PySem.W.mg_none_of X G z_isinstance,
    PySem.W.mg_none_of X G z_len,
    PySem.W.mg_none_of X G z_list,
    PySem.W.mg_none_of X G z_max,
    PySem.W.mg_none_of X G z_min,
    PySem.W.mg_none_of X G z_range,
    PySem.W.mg_none_of X G z_set,
    PySem.W.mg_none_of X G z_sorted,
    PySem.W.mg_none_of X G z_sum,
    PySem.W.mg_none_of X G z_tuple⟩
  exact ⟨_, fun s v => .of_eq rfl, fun base _ _ => ok_law T math⟩
end LW
open PySem PySem.W PyProof.Rows
set_option maxRecDepth 100000 in
set_option maxHeartbeats 0 in
theorem PySem.Challenge.cw_standwaves_k44_whole_calendars_as_sets_holds : PySem.Challenge.rw_standwaves_k44_whole_calendars_as_sets.Holds := by
  w_on; o_law; k_head; (case hw => w_witness2)
  k_fill
  refine DL.walk_g (l := PySem.Challenge.rw_standwaves_k44_whole_calendars_as_sets) (k := 8) (x := "_law_script") rfl rfl ⟨rfl, by decide, by decide⟩ (fun w h Y => PySem.W.kIn_of Y) ?F
  case F =>
    intro w mg fa h KX G hmg
    refine' LW.all_mk KX G hmg ?q1_Calendar ?q2_Calendar ?q3_Calendar ?q4_Calendar ?q5_Calendar ?a0 ?l0 ?c0 ?k0 ?a1 ?l1 ?c1 ?k1 ?a2 ?l2 ?c2 ?k2 ?a3 ?l3 ?c3 ?k3 ?a4 ?l4 ?c4 ?k4 ?a5 ?b5 ?e5 ?h5 ?l5 ?c5 ?k5 ?a6 ?l6 ?c6 ?k6 ?a7 ?l7 ?c7 ?k7 ?a8 ?l8 ?c8 ?k8 ?a9 ?l9 ?c9 ?k9 ?a10 ?l10 ?c10 ?k10 ?a11 ?b11 ?l11 ?c11 ?k11 ?a12 ?b12 ?l12 ?c12 ?k12 ?a13 ?b13 ?e13 ?h13 ?l13 ?c13 ?k13 ?a14 ?b14 ?e14 ?h14 ?l14 ?c14 ?k14 ?a15 ?b15 ?e15 ?h15 ?l15 ?c15 ?k15 ?a16 ?b16 ?e16 ?h16 ?l16 ?c16 ?k16 ?a17 ?l17 ?c17 ?k17 ?a18 ?l18 ?c18 ?k18 ?a19 ?l19 ?c19 ?k19 ?a20 ?l20 ?c20 ?k20 ?a21 ?b21 ?e21 ?h21 ?l21 ?c21 ?k21 ?a22 ?b22 ?l22 ?c22 ?k22 ?a23 ?b23 ?l23 ?c23 ?k23 ?a24 ?b24 ?l24 ?c24 ?k24 ?a25 ?b25 ?l25 ?c25 ?k25 ?a26 ?l26 ?c26 ?k26 ?a27 ?l27 ?c27 ?k27 ?a28 ?b28 ?l28 ?c28 ?k28 ?a29 ?b29 ?l29 ?c29 ?k29 ?a30 ?b30 ?l30 ?c30 ?k30 ?a31 ?b31 ?l31 ?c31 ?k31 ?a32 ?b32 ?l32 ?c32 ?k32 ?a33 ?l33 ?c33 ?k33 ?a34 ?l34 ?c34 ?k34 ?n1_Calendar ?n2_Calendar ?f2_Calendar ?i1_Calendar ?i2_Calendar ?i3_Calendar ?i4_Calendar ?j0_Calendar ?j1_Calendar ?j2_Calendar ?j3_Calendar ?j4_Calendar ?j5_Calendar ?j6_Calendar ?i5_Calendar ?s1_Calendar_its_telling ?s2_Calendar_its_telling ?s3_Calendar_its_telling ?s4_Calendar_its_telling ?s5_Calendar_its_telling ?z_abs ?z_all ?z_any ?z_bool ?z_int ?z_isinstance ?z_len ?z_list ?z_max ?z_min ?z_range ?z_set ?z_sorted ?z_sum ?z_tuple
    (case q1_Calendar => k_is)
    (case q2_Calendar => k_is)
    (case q3_Calendar => k_is)
    (case q4_Calendar => k_is)
    (case q5_Calendar => k_is)
    (case a0 => k_is)
    (case l0 => k_is)
    (case c0 => k_is)
    (case k0 => k_is)
    (case a1 => k_is)
    (case l1 => k_is)
    (case c1 => k_is)
    (case k1 => k_is)
    (case a2 => k_is)
    (case l2 => k_is)
    (case c2 => k_is)
    (case k2 => k_is)
    (case a3 => k_is)
    (case l3 => k_is)
    (case c3 => k_is)
    (case k3 => k_is)
    (case a4 => k_is)
    (case l4 => k_is)
    (case c4 => k_is)
    (case k4 => k_is)
    (case a5 => k_is)
    (case b5 => k_is)
    (case e5 => k_is)
    (case h5 => k_is)
    (case l5 => k_is)
    (case c5 => k_is)
    (case k5 => k_is)
    (case a6 => k_is)
    (case l6 => k_is)
    (case c6 => k_is)
    (case k6 => k_is)
    (case a7 => k_is)
    (case l7 => k_is)
    (case c7 => k_is)
    (case k7 => k_is)
    (case a8 => k_is)
    (case l8 => k_is)
    (case c8 => k_is)
    (case k8 => k_is)
    (case a9 => k_is)
    (case l9 => k_is)
    (case c9 => k_is)
    (case k9 => k_is)
    (case a10 => k_is)
    (case l10 => k_is)
    (case c10 => k_is)
    (case k10 => k_is)
    (case a11 => k_is)
    (case b11 => k_is)
    (case l11 => k_is)
    (case c11 => k_is)
    (case k11 => k_is)
    (case a12 => k_is)
    (case b12 => k_is)
    (case l12 => k_is)
    (case c12 => k_is)
    (case k12 => k_is)
    (case a13 => k_is)
    (case b13 => k_is)
    (case e13 => k_is)
    (case h13 => k_is)
    (case l13 => k_is)
    (case c13 => k_is)
    (case k13 => k_is)
    (case a14 => k_is)
    (case b14 => k_is)
    (case e14 => k_is)
    (case h14 => k_is)
    (case l14 => k_is)
    (case c14 => k_is)
    (case k14 => k_is)
    (case a15 => k_is)
    (case b15 => k_is)
    (case e15 => k_is)
    (case h15 => k_is)
    (case l15 => k_is)
    (case c15 => k_is)
    (case k15 => k_is)
    (case a16 => k_is)
    (case b16 => k_is)
    (case e16 => k_is)
    (case h16 => k_is)
    (case l16 => k_is)
    (case c16 => k_is)
    (case k16 => k_is)
    (case a17 => k_is)
    (case l17 => k_is)
    (case c17 => k_is)
    (case k17 => k_is)
    (case a18 => k_is)
    (case l18 => k_is)
    (case c18 => k_is)
    (case k18 => k_is)
    (case a19 => k_is)
    (case l19 => k_is)
    (case c19 => k_is)
    (case k19 => k_is)
    (case a20 => k_is)
    (case l20 => k_is)
    (case c20 => k_is)
    (case k20 => k_is)
    (case a21 => k_is)
    (case b21 => k_is)
    (case e21 => k_is)
    (case h21 => k_is)
    (case l21 => k_is)
    (case c21 => k_is)
    (case k21 => k_is)
    (case a22 => k_is)
    (case b22 => k_is)
    (case l22 => k_is)
    (case c22 => k_is)
    (case k22 => k_is)
    (case a23 => k_is)
    (case b23 => k_is)
    (case l23 => k_is)
    (case c23 => k_is)
    (case k23 => k_is)
    (case a24 => k_is)
    (case b24 => k_is)
    (case l24 => k_is)
    (case c24 => k_is)
    (case k24 => k_is)
    (case a25 => k_is)
    (case b25 => k_is)
    (case l25 => k_is)
    (case c25 => k_is)
    (case k25 => k_is)
    (case a26 => k_is)
    (case l26 => k_is)
    (case c26 => k_is)
    (case k26 => k_is)
    (case a27 => k_is)
    (case l27 => k_is)
    (case c27 => k_is)
    (case k27 => k_is)
    (case a28 => k_is)
    (case b28 => k_is)
    (case l28 => k_is)
    (case c28 => k_is)
    (case k28 => k_is)
    (case a29 => k_is)
    (case b29 => k_is)
    (case l29 => k_is)
    (case c29 => k_is)
    (case k29 => k_is)
    (case a30 => k_is)
    (case b30 => k_is)
    (case l30 => k_is)
    (case c30 => k_is)
    (case k30 => k_is)
    (case a31 => k_is)
    (case b31 => k_is)
    (case l31 => k_is)
    (case c31 => k_is)
    (case k31 => k_is)
    (case a32 => k_is)
    (case b32 => k_is)
    (case l32 => k_is)
    (case c32 => k_is)
    (case k32 => k_is)
    (case a33 => k_is)
    (case l33 => k_is)
    (case c33 => k_is)
    (case k33 => k_is)
    (case a34 => k_is)
    (case l34 => k_is)
    (case c34 => k_is)
    (case k34 => k_is)
    (case n1_Calendar => k_is)
    (case n2_Calendar => k_is)
    (case f2_Calendar => k_is)
    (case i1_Calendar => k_is)
    (case i2_Calendar => k_is)
    (case i3_Calendar => k_is)
    (case i4_Calendar => k_is)
    (case j0_Calendar => k_is)
    (case j1_Calendar => k_is)
    (case j2_Calendar => k_is)
    (case j3_Calendar => k_is)
    (case j4_Calendar => k_is)
    (case j5_Calendar => k_is)
    (case j6_Calendar => k_is)
    (case i5_Calendar => k_is)
    (case s1_Calendar_its_telling => k_is)
    (case s2_Calendar_its_telling => k_is)
    (case s3_Calendar_its_telling => k_is)
    (case s4_Calendar_its_telling => k_is)
    (case s5_Calendar_its_telling => k_is)
    (case z_abs => k_is)
    (case z_all => k_is)
    (case z_any => k_is)
    (case z_bool => k_is)
    (case z_int => k_is)
    (case z_isinstance => k_is)
    (case z_len => k_is)
    (case z_list => k_is)
    (case z_max => k_is)
    (case z_min => k_is)
    (case z_range => k_is)
    (case z_set => k_is)
    (case z_sorted => k_is)
    (case z_sum => k_is)
    (case z_tuple => k_is)

