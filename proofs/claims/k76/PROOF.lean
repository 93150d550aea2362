import PyProof.Rows.All
import Wide.All
import OpenK.AllK
import Wide.FinOn
import HandS.ForMost
import HandS.Slots
import HandS.Style
import HandS.Codes
import HandS.SlotsOwn
import PyProof.Draws
import PyProof.EnumMake
import HandS.IsInst
import HandS.IntHex
import HandS.Defaults
import PyProof.Rows.RegReprOcc
import HandS.WordsDict
import HandS.TupLen
import KE.IntTextLaws
import HandS.Deep
import HandS.FStr
import HandS.ClsMeth
import PyProof.FString3
import PyProof.Rows.StrIntSpec
import PyProof.SumWalkG
import HandS.Star
import HandS.DictComp
import HandS.More
import PyProof.InstNe
import PyProof.WalkInts
import PyProof.StrOps
import HandS.SortInts
import PySem.Challenge.RW_standwaves_k76_whole_quiet_sizes
set_option Elab.async false
set_option maxRecDepth 100000
set_option autoImplicit false
set_option maxHeartbeats 4000000
namespace DL
open PySem L2
/-! ### data without a heap -/
inductive D where
  | non | bl (b : Bool) | int (i : Int) | str (x : List Nat) | lst (xs : List D) | tup (xs : List D) | dct (ks : List Key) (vs : List D) | dcT (ks : List (List Key)) (vs : List D) | obj (c : Nat) (fs : List D) | bag (p : Addr) | scr (ns : List Int)
/-- the classes of the package whose instances are data -/
def clsName : Nat → Str
  | 0 => "Rule" | 1 => "Line" | 2 => "Calendar" | 3 => "Web" | 4 => "Moment" | 5 => "Game" | _ => "Desk"
def D.flat : D → Bool
  | .lst _ => false | .tup _ => false | .dct _ _ => false | .dcT _ _ => false | .obj _ _ => false | .scr _ => false | _ => true
mutual
inductive Rp (K : PySem.W.Frag) (G : Hp) : V → D → Prop
  | non : Rp K G .non .non
  | bl (b : Bool) : Rp K G (.bl b) (.bl b)
  | int (i : Int) : Rp K G (.int i) (.int i)
  | str (x : List Nat) : Rp K G (.str ⟨x.toArray⟩) (.str x)
  | lst {a : Addr} {vs : List V} {ds : List D} : G a = some (.lst vs) → RpL K G vs ds → Rp K G (.ref a) (.lst ds)
  | tup {a : Addr} {vs : List V} {ds : List D} : SqT K G a vs → RpL K G vs ds → Rp K G (.ref a) (.tup ds)
  | dct {a : Addr} {ks : List Key} {vs : List V} {ds : List D} : G a = some (.dK (ks.zip vs)) → ks.length = vs.length → RpL K G vs ds → Rp K G (.ref a) (.dct ks ds)
  | dcT {a : Addr} {ks : List (List Key)} {vs : List V} {ds : List D} : G a = some (.dT (ks.zip vs)) → ks.length = vs.length → RpL K G vs ds → Rp K G (.ref a) (.dcT ks ds)
  | obj {c : Nat} {a C dx : Addr} {vs : List V} {ds : List D} : PySem.W.nsIn K mainGlobals (clsName c) = some (some (.ref C)) → G a = some (SlX.SlO a C dx (vs.map some)) → G dx = some (.xd []) → RpL K G vs ds → Rp K G (.ref a) (.obj c ds)
  | bag (p : Addr) : Rp K G (.ref p) (.bag p)
  | scr {a : Addr} {ns : List Int} : SqL K G a (ns.map V.int) → Rp K G (.ref a) (.scr ns)
inductive RpL (K : PySem.W.Frag) (G : Hp) : List V → List D → Prop
  | nil : RpL K G [] []
  | cons {v : V} {vs : List V} {d : D} {ds : List D} : Rp K G v d → RpL K G vs ds → RpL K G (v :: vs) (d :: ds)
end
theorem Same.sqt {K : PySem.W.Frag} {H H' : Hp} {a : Addr} {xs : List V} (e : Same H H') (h : SqT K H a xs) : SqT K H' a xs := by
  rcases h with (h | ⟨o, h⟩) | h
  · exact .inl (.inl (e _ _ h))
  · exact .inl (.inr ⟨o, e _ _ h⟩)
  · exact .inr h
mutual
theorem Rp.mono {K : PySem.W.Frag} {G G' : Hp} (e : Same G G') : ∀ {v : V} {d : D}, Rp K G v d → Rp K G' v d
  | _, _, .non => .non
  | _, _, .bl b => .bl b
  | _, _, .int i => .int i
  | _, _, .str x => .str x
  | _, _, .lst h r => .lst (e _ _ h) (RpL.mono e r)
  | _, _, .tup h r => .tup (Same.sqt e h) (RpL.mono e r)
  | _, _, .dct h l r => .dct (e _ _ h) l (RpL.mono e r)
  | _, _, .dcT h l r => .dcT (e _ _ h) l (RpL.mono e r)
  | _, _, .obj h0 h h2 r => .obj h0 (e _ _ h) (e _ _ h2) (RpL.mono e r)
  | _, _, .bag p => .bag p
  | _, _, .scr h => .scr (Same.seq e h)
theorem RpL.mono {K : PySem.W.Frag} {G G' : Hp} (e : Same G G') : ∀ {vs : List V} {ds : List D}, RpL K G vs ds → RpL K G' vs ds
  | _, _, .nil => .nil
  | _, _, .cons a b => .cons (Rp.mono e a) (RpL.mono e b)
end
theorem Rp.flat_any {K : PySem.W.Frag} {G G' : Hp} {v : V} {d : D} (h : Rp K G v d) (f : d.flat = true) : Rp K G' v d := by
  cases h with
  | non => exact .non
  | bl b => exact .bl b
  | int i => exact .int i
  | str x => exact .str x
  | bag p => exact .bag p
  | lst h r => cases f
  | tup h r => cases f
  | dct h l r => cases f
  | dcT h l r => cases f
  | obj h0 h h2 r => cases f
  | scr h => cases f
theorem RpL.flat_any {K : PySem.W.Frag} {G G' : Hp} : ∀ {vs : List V} {ds : List D}, RpL K G vs ds → ds.all D.flat = true → RpL K G' vs ds
  | _, _, .nil, _ => .nil
  | _, _, .cons a b, f => by
    simp only [List.all_cons, Bool.and_eq_true] at f
    exact .cons (a.flat_any f.1) (RpL.flat_any b f.2)
theorem RpL.length {K : PySem.W.Frag} {G : Hp} : ∀ {vs : List V} {ds : List D}, RpL K G vs ds → vs.length = ds.length
  | _, _, .nil => rfl
  | _, _, .cons _ b => by simp [RpL.length b]
theorem RpL.get {K : PySem.W.Frag} {G : Hp} : ∀ {vs : List V} {ds : List D} {i : Nat} {d : D}, RpL K G vs ds → ds[i]? = some d → ∃ v, vs[i]? = some v ∧ Rp K G v d
  | _, _, _, _, .nil, h => by simp at h
  | _, _, 0, _, .cons a _, h => by simp at h; subst h; exact ⟨_, rfl, a⟩
  | _, _, i + 1, d, .cons _ b, h => by
    obtain ⟨v, h1, h2⟩ := RpL.get (i := i) (d := d) b (by simpa using h)
    exact ⟨v, by simpa using h1, h2⟩
theorem RpL.append {K : PySem.W.Frag} {G : Hp} : ∀ {vs ws : List V} {ds es : List D}, RpL K G vs ds → RpL K G ws es → RpL K G (vs ++ ws) (ds ++ es)
  | _, _, _, _, .nil, h => h
  | _, _, _, _, .cons a b, h => .cons a (RpL.append b h)
theorem RpL.drop {K : PySem.W.Frag} {G : Hp} : ∀ {vs : List V} {ds : List D} (n : Nat), RpL K G vs ds → RpL K G (vs.drop n) (ds.drop n)
  | _, _, 0, h => h
  | _, _, _ + 1, .nil => .nil
  | _, _, n + 1, .cons _ b => RpL.drop n b
theorem RpL.take {K : PySem.W.Frag} {G : Hp} : ∀ {vs : List V} {ds : List D} (n : Nat), RpL K G vs ds → RpL K G (vs.take n) (ds.take n)
  | _, _, 0, _ => .nil
  | _, _, _ + 1, .nil => .nil
  | _, _, n + 1, .cons a b => .cons a (RpL.take n b)
/-! ### the bag, and partial functions with a bag -/
structure Bg where
  p : Addr
  q : Addr
  z0 : Int
  z1 : Int
  z2 : Int
  cs : List Int
abbrev Bs := Option Bg
def Bs.at : Bs → Option Addr
  | none => none
  | some g => some g.p
def BagOk (G H : Hp) : Bs → Prop
  | none => True
  | some g => G g.p = none ∧ H g.p = some (.lst [.int g.z0, .int g.z1, .int g.z2, .ref g.q]) ∧ G g.q = some (.lst (g.cs.map V.int))
def Bs.like : Bs → Bs → Prop
  | none, none => True
  | some g, some h => g.p = h.p ∧ g.q = h.q ∧ g.cs = h.cs
  | _, _ => False
theorem Bs.like_refl : ∀ b : Bs, b.like b
  | none => trivial
  | some _ => ⟨rfl, rfl, rfl⟩
theorem Bs.like_trans : ∀ {a b c : Bs}, a.like b → b.like c → a.like c
  | none, none, none, _, _ => trivial
  | some _, some _, some _, h, k => ⟨h.1.trans k.1, h.2.1.trans k.2.1, h.2.2.trans k.2.2⟩
  | none, none, some _, _, k => k.elim
  | none, some _, _, h, _ => h.elim
  | some _, none, _, h, _ => h.elim
  | some _, some _, none, _, k => k.elim
theorem Bs.like_at : ∀ {a b : Bs}, a.like b → a.at = b.at
  | none, none, _ => rfl
  | some _, some _, h => by show some _ = some _; rw [h.1]
  | none, some _, h => h.elim
  | some _, none, h => h.elim
abbrev M (α : Type) := Bs → Option (α × Bs)
def M.ret {α : Type} (a : α) : M α := fun b => some (a, b)
def M.bind {α β : Type} (m : M α) (f : α → M β) : M β := fun b => match m b with | some (a, b') => f a b' | none => none
def M.fail {α : Type} : M α := fun _ => none
def M.of {α : Type} : Option α → M α
  | some a => M.ret a
  | none => M.fail
def M.guard {α : Type} (c : Bool) (m : M α) : M α := if c = true then m else M.fail
theorem M.bind_some {α β : Type} {m : M α} {f : α → M β} {b : Bs} {r : β × Bs} (h : M.bind m f b = some r) : ∃ a b', m b = some (a, b') ∧ f a b' = some r := by
  unfold M.bind at h
  split at h
  · exact ⟨_, _, by assumption, h⟩
  · cases h
theorem M.bind_eq {α β : Type} {m : M α} {f : α → M β} {b b' : Bs} {a : α} (h : m b = some (a, b')) : M.bind m f b = f a b' := by
  unfold M.bind
  rw [h]
@[simp] theorem M.ret_bind {α β : Type} (a : α) (f : α → M β) : M.bind (M.ret a) f = f a := rfl
@[simp] theorem M.fail_bind {α β : Type} (f : α → M β) : M.bind M.fail f = M.fail := rfl
@[simp] theorem M.bind_ret {α : Type} (m : M α) : M.bind m M.ret = m := by
  funext b; unfold M.bind M.ret; cases h : m b with
  | none => rfl
  | some r => rfl
@[simp] theorem M.bind_assoc {α β γ : Type} (m : M α) (f : α → M β) (g : β → M γ) : M.bind (M.bind m f) g = M.bind m fun a => M.bind (f a) g := by
  funext b; unfold M.bind; cases h : m b with
  | none => rfl
  | some r => rfl
@[simp] theorem M.guard_true {α : Type} (m : M α) : M.guard true m = m := rfl
theorem M.guard_of {α : Type} {c : Bool} {m : M α} (h : c = true) : M.guard c m = m := if_pos h
@[simp] theorem M.of_some {α : Type} (a : α) : M.of (some a) = M.ret a := rfl
/-! ### what a step leaves -/
structure Nxt (G H : Hp) (b : Bs) (G' H' : Hp) (b' : Bs) : Prop where
  gg : Same G G'
  fz : Same G' H'
  keep : ∀ a o, H a = some o → b.at ≠ some a → H' a = some o
  new : ∀ a o, H a = some o → G a = none → G' a = none
  bag : BagOk G' H' b'
  like : b.like b'
theorem Nxt.refl {G H : Hp} {b : Bs} (f : Same G H) (o : BagOk G H b) : Nxt G H b G H b := ⟨fun _ _ h => h, f, fun _ _ h _ => h, fun _ _ _ h => h, o, b.like_refl⟩
theorem Nxt.trans {G H G1 H1 G2 H2 : Hp} {b b1 b2 : Bs} (x : Nxt G H b G1 H1 b1) (y : Nxt G1 H1 b1 G2 H2 b2) : Nxt G H b G2 H2 b2 where
  gg := fun a o h => y.gg a o (x.gg a o h)
  fz := y.fz
  keep := fun a o h n => y.keep a o (x.keep a o h n) (by rw [← Bs.like_at x.like]; exact n)
  new := fun a o h n => by
    by_cases e : b.at = some a
    · have l := Bs.like_trans x.like y.like
      have e2 : b2.at = some a := by rw [← Bs.like_at l]; exact e
      have ob := y.bag
      cases b2 with
      | none => cases e2
      | some g => cases e2; exact ob.1
    · exact y.new a o (x.keep a o h e) (x.new a o h n)
  bag := y.bag
  like := Bs.like_trans x.like y.like
/-- a new object, frozen at once -/
theorem Nxt.newF {G H : Hp} {b : Bs} {p : Addr} {o : HO} (f : Same G H) (ob : BagOk G H b) (hp : H p = none) : Nxt G H b (upd G p o) (upd H p o) b := by
  have gp : G p = none := by
    cases e : G p with
    | none => rfl
    | some u => rw [f p u e] at hp; cases hp
  refine ⟨fun a u h => ?_, fun a u h => ?_, fun a u h _ => ?_, fun a u h n => ?_, ?_, b.like_refl⟩
  · rw [upd_ne (ne_of_none h gp)]; exact h
  · by_cases e : a = p
    · subst e; rw [upd_same] at h ⊢; exact h
    · rw [upd_ne e] at h ⊢; exact f a u h
  · rw [upd_ne (ne_of_none h hp)]; exact h
  · rw [upd_ne (ne_of_none h hp)]; exact n
  · cases b with
    | none => trivial
    | some g =>
      obtain ⟨h1, h2, h3⟩ := ob
      refine ⟨?_, ?_, ?_⟩
      · rw [upd_ne (ne_of_none h2 hp)]; exact h1
      · rw [upd_ne (ne_of_none h2 hp)]; exact h2
      · rw [upd_ne (ne_of_none h3 gp)]; exact h3
/-- a new object, not frozen -/
theorem Nxt.newH {G H : Hp} {b : Bs} {p : Addr} {o : HO} (f : Same G H) (ob : BagOk G H b) (hp : H p = none) : Nxt G H b G (upd H p o) b := by
  refine ⟨fun a u h => h, fun a u h => ?_, fun a u h _ => ?_, fun a u h n => n, ?_, b.like_refl⟩
  · rw [upd_ne (ne_of_none (f a u h) hp)]; exact f a u h
  · rw [upd_ne (ne_of_none h hp)]; exact h
  · cases b with
    | none => trivial
    | some g =>
      obtain ⟨h1, h2, h3⟩ := ob
      refine ⟨h1, ?_, h3⟩
      rw [upd_ne (ne_of_none h2 hp)]; exact h2
theorem gnone {G H : Hp} {p : Addr} (f : Same G H) (hp : H p = none) : G p = none := by
  cases e : G p with
  | none => rfl
  | some u => rw [f p u e] at hp; cases hp
/-! ### readings by functions -/
abbrev Env := List (Option D)
structure RS (K : PySem.W.Frag) (G : Hp) (σ : L2.St) (ρ : Env) : Prop where
  len : ρ.length ≤ σ.length
  get : ∀ (i : Nat) (d : D), ρ[i]? = some (some d) → ∃ v, σ[i]? = some (some v) ∧ Rp K G v d
theorem RS.mono {K : PySem.W.Frag} {G G' : Hp} {σ : L2.St} {ρ : Env} (e : Same G G') (h : RS K G σ ρ) : RS K G' σ ρ := ⟨h.len, fun i d q => by
  obtain ⟨v, h1, h2⟩ := h.get i d q
  exact ⟨v, h1, h2.mono e⟩⟩
theorem bag_ne {G H : Hp} {b : Bs} {p : Addr} (ob : BagOk G H b) (hp : H p = none) : b.at ≠ some p := by
  intro z
  cases b with
  | none => cases z
  | some g => cases z; rw [ob.2.1] at hp; cases hp
/-- an object that was not there ahead is changed -/
theorem Nxt.mut {G H G' H' : Hp} {b b' : Bs} {p : Addr} {o : HO} (n : Nxt G H b G' H' b') (ob : BagOk G H b) (hp : H p = none) (gp : G' p = none) : Nxt G H b G' (upd H' p o) b' := by
  have nb : b'.at ≠ some p := by rw [← Bs.like_at n.like]; exact bag_ne ob hp
  refine ⟨n.gg, fun a u h => ?_, fun a u h hb => ?_, n.new, ?_, n.like⟩
  · rw [upd_ne (ne_of_none h gp)]; exact n.fz a u h
  · rw [upd_ne (ne_of_none h hp)]; exact n.keep a u h hb
  · have ob' := n.bag
    cases b' with
    | none => trivial
    | some g =>
      refine ⟨ob'.1, ?_, ob'.2.2⟩
      rw [upd_ne fun z => nb (by rw [← z]; rfl)]
      exact ob'.2.1
def tF (K : PySem.W.Frag) (f : Env → M D) : TE := fun σ H Q => ∃ ρ G b d b', RS K G σ ρ ∧ Same G H ∧ BagOk G H b ∧ f ρ b = some (d, b') ∧
  ∀ v G' H', Nxt G H b G' H' b' → Rp K G' v d → Q v H'
def tFT (K : PySem.W.Frag) (f : Env → M Bool) : TT := fun σ H Q => ∃ ρ G b d b', RS K G σ ρ ∧ Same G H ∧ BagOk G H b ∧ f ρ b = some (d, b') ∧
  ∀ G' H', Nxt G H b G' H' b' → Q d H'
def tFA (K : PySem.W.Frag) (f : Env → M (List D)) : TA := fun σ H Q => ∃ ρ G b ds b', RS K G σ ρ ∧ Same G H ∧ BagOk G H b ∧ f ρ b = some (ds, b') ∧
  ∀ vs G' H', Nxt G H b G' H' b' → RpL K G' vs ds → Q vs H'
/-- a new list, not frozen -/
def tN (K : PySem.W.Frag) (f : Env → M (List D)) : TE := fun σ H Q => ∃ ρ G b ds b', RS K G σ ρ ∧ Same G H ∧ BagOk G H b ∧ f ρ b = some (ds, b') ∧
  ∀ p vs G' H', Nxt G H b G' H' b' → H p = none → G' p = none → H' p = some (.lst vs) → RpL K G' vs ds → Q (.ref p) H'
abbrev DE (X : Cx) (e : Expr) (f : Env → M D) : Prop := PE X e (tF X.K f)
abbrev DN (X : Cx) (e : Expr) (f : Env → M (List D)) : Prop := PE X e (tN X.K f)
abbrev DT (X : Cx) (e : Expr) (f : Env → M Bool) : Prop := PT X e (tFT X.K f)
abbrev DA (X : Cx) (es : List Expr) (f : Env → M (List D)) : Prop := PA X es (tFA X.K f)
theorem PEimp {X : Cx} {e : Expr} {t t' : TE} (h : PE X e t) (i : ∀ σ H Q, t' σ H Q → t σ H Q) : PE X e t' := ⟨fun pins s σ H Q I q => h.run pins s σ H Q I (i σ H Q q)⟩
theorem PTimp {X : Cx} {e : Expr} {t t' : TT} (h : PT X e t) (i : ∀ σ H Q, t' σ H Q → t σ H Q) : PT X e t' := ⟨fun pins s σ H Q I q => h.run pins s σ H Q I (i σ H Q q)⟩
theorem PAimp {X : Cx} {e : List Expr} {t t' : TA} (h : PA X e t) (i : ∀ σ H Q, t' σ H Q → t σ H Q) : PA X e t' := ⟨fun pos pins s σ H Q I q => h.run pos pins s σ H Q I (i σ H Q q)⟩
/-! ### names, constants -/
section
variable {X : Cx}
def rdEnv (i : Nat) (ρ : Env) : M D := match ρ[i]? with
  | some (some d) => M.ret d
  | _ => M.fail
theorem rdEnv_some {i : Nat} {ρ : Env} {b b' : Bs} {d : D} (h : rdEnv i ρ b = some (d, b')) : ρ[i]? = some (some d) ∧ b = b' := by
  unfold rdEnv at h
  cases e : ρ[i]? with
  | none => rw [e] at h; cases h
  | some o =>
    cases o with
    | none => rw [e] at h; cases h
    | some z => rw [e] at h; cases h; exact ⟨rfl, rfl⟩
theorem dv (i : Nat) {x : Str} {pos : Pos} (hN : X.N[i]? = some x := by rfl) (hv : Vis X.env.scope x := by first | exact Or.inl rfl | exact Or.inr (Or.inl rfl) | exact Or.inr (Or.inr rfl)) (hd : (x == ("__debug__" : Str)) = false := by decide)
    (hcd : (x == ("__classdict__" : Str)) = false := by decide) : DE X (.Name x pos) (rdEnv i) := by
  refine PEimp (pe_var (pos := pos) hN hv hd hcd) ?_
  rintro σ H Q ⟨ρ, G, b, d, b', r, f, o, e, q⟩
  obtain ⟨hd', rfl⟩ := rdEnv_some e
  obtain ⟨v, h1, h2⟩ := r.get i _ hd'
  exact ⟨v, h1, q v G H (Nxt.refl f o) h2⟩
theorem d_c {e : Expr} {v : V} {d : D} (h : PE X e (tC v)) (r : ∀ G, Rp X.K G v d) : DE X e (fun _ => M.ret d) := by
  refine PEimp h ?_
  rintro σ H Q ⟨ρ, G, b, d', b', _, f, o, e, q⟩
  cases e
  exact q v G H (Nxt.refl f o) (r G)
theorem d_int {i : Int} {j pos} : DE X (.Constant (.int i) j pos) (fun _ => M.ret (.int i)) := d_c pe_int fun _ => .int i
theorem d_bl {b : Bool} {j pos} : DE X (.Constant (.bool b) j pos) (fun _ => M.ret (.bl b)) := d_c pe_bl fun _ => .bl b
theorem d_non {j pos} : DE X (.Constant .none j pos) (fun _ => M.ret .non) := d_c pe_non fun _ => .non
theorem d_str {x : Str} {j pos} (l : List Nat) (h : x = ⟨l.toArray⟩ := by rfl) : DE X (.Constant (.str x) j pos) (fun _ => M.ret (.str l)) := d_c pe_str fun _ => by rw [h]; exact .str l
end
/-! ### two-place operations -/
def SndR (K : PySem.W.Frag) (r : R2) (g : D → D → M D) : Prop := ∀ G H b x y dx dy d b' Q, Rp K G x dx → Rp K G y dy → Same G H → BagOk G H b → g dx dy b = some (d, b') →
  (∀ v G' H', Nxt G H b G' H' b' → Rp K G' v d → Q v H') → r x y H Q
theorem two {K : PySem.W.Frag} {r : R2} {f g : Env → M D} {h : D → D → M D} (hs : SndR K r h) : ∀ σ H Q, tF K (fun ρ => M.bind (f ρ) fun x => M.bind (g ρ) fun y => h x y) σ H Q → tOp r (tF K f) (tF K g) σ H Q := by
  rintro σ H Q ⟨ρ, G, b, d, b', rs, fz, ob, e, q⟩
  obtain ⟨x, b1, e1, e⟩ := M.bind_some e
  obtain ⟨y, b2, e2, e3⟩ := M.bind_some e
  refine ⟨ρ, G, b, x, b1, rs, fz, ob, e1, fun v1 G1 H1 n1 r1 => ?_⟩
  refine ⟨ρ, G1, b1, y, b2, rs.mono n1.gg, n1.fz, n1.bag, e2, fun v2 G2 H2 n2 r2 => ?_⟩
  exact hs G2 H2 b2 v1 v2 x y d b' Q (r1.mono n2.gg) r2 n2.fz n2.bag e3 fun v G' H' n3 r3 => q v G' H' ((n1.trans n2).trans n3) r3
/-- pure values without a heap -/
theorem snd_pure {K : PySem.W.Frag} {r : R2} {g : D → D → Option D} (h : ∀ G x y dx dy d, Rp K G x dx → Rp K G y dy → g dx dy = some d → ∃ v, (∀ G', Rp K G' v d) ∧ ∀ H (Q : VK), Same G H → Q v H → r x y H Q) : SndR K r (fun x y => M.of (g x y)) := by
  intro G H b x y dx dy d b' Q rx ry f o e q
  have e' : M.of (g dx dy) b = some (d, b') := e
  clear e
  cases e1 : g dx dy with
  | none => rw [e1] at e'; cases e'
  | some z =>
    rw [e1] at e'
    cases e'
    obtain ⟨v, h1, h2⟩ := h G x y dx dy d rx ry e1
    exact h2 H Q f (q v G H (Nxt.refl f o) (h1 G))
section
variable {X : Cx} {a b : Expr} {f g : Env → M D} {h : D → D → M D} {r : R2} {pos : Pos}
theorem d_op {op : Operator} (ho : OpR X (binaryOp op) r) (hs : SndR X.K r h) (ha : DE X a f) (hb : DE X b g) : DE X (.BinOp a op b pos) (fun ρ => M.bind (f ρ) fun x => M.bind (g ρ) fun y => h x y) :=
  PEimp (pe_op ho ha hb) (two hs)
theorem d_cmp {op : CmpOp} (ho : OpR X (compareOp op) r) (hs : SndR X.K r h) (ha : DE X a f) (hb : DE X b g) (hm : behindInMarks op b = false) : DE X (.Compare a [op] [b] pos) (fun ρ => M.bind (f ρ) fun x => M.bind (g ρ) fun y => h x y) :=
  PEimp (pe_cmpR ho ha hb hm) (two hs)
theorem d_ix0 (ho : IxR X r) (hs : SndR X.K r h) (ha : DE X a f) (hb : DE X b g) (hp : PlainIx b) : DE X (.Subscript a b pos) (fun ρ => M.bind (f ρ) fun x => M.bind (g ρ) fun y => h x y) :=
  PEimp (pe_ix ho ha hb hp) (two hs)
/-- a comparison as a test -/
def asB : D → M Bool
  | .bl b => M.ret b
  | _ => M.fail
theorem asB_some {z : D} {b b' : Bs} {k : Bool} (h : asB z b = some (k, b')) : z = .bl k ∧ b = b' := by
  cases z <;> first | (cases h; done) | (cases h; exact ⟨rfl, rfl⟩)
theorem t_cmp {op : CmpOp} (ho : OpR X (compareOp op) r) (hs : SndR X.K r h) (ha : DE X a f) (hb : DE X b g) (hm : behindInMarks op b = false) : DT X (.Compare a [op] [b] pos) (fun ρ => M.bind (f ρ) fun x => M.bind (g ρ) fun y => M.bind (h x y) asB) := by
  refine PTimp (pt_cmpR ho ha hb hm) ?_
  rintro σ H Q ⟨ρ, G, b, d, b', rs, fz, ob, e, q⟩
  obtain ⟨x, b1, e1, e⟩ := M.bind_some e
  obtain ⟨y, b2, e2, e⟩ := M.bind_some e
  obtain ⟨z, b3, e3, e4⟩ := M.bind_some e
  refine two hs σ H _ ⟨ρ, G, b, z, b3, rs, fz, ob, ?_, fun v G' H' n rz => ?_⟩
  · show M.bind (f ρ) (fun x => M.bind (g ρ) fun y => h x y) b = _
    rw [M.bind_eq e1, M.bind_eq e2]; exact e3
  · obtain ⟨rfl, rfl⟩ := asB_some e4
    cases rz
    exact ⟨_, rfl, q G' H' n⟩
end
end DL
set_option Elab.async false
set_option maxRecDepth 100000
set_option autoImplicit false
set_option maxHeartbeats 4000000
namespace DL
open PySem L2
/-! ### arguments -/
section
variable {X : Cx}
theorem da_nil : DA X [] (fun _ => M.ret []) := by
  refine PAimp pa_nil ?_
  rintro σ H Q ⟨ρ, G, b, d, b', r, f, o, e, q⟩
  cases e
  exact q [] G H (Nxt.refl f o) .nil
theorem cons_f {K : PySem.W.Frag} {f : Env → M D} {g : Env → M (List D)} : ∀ σ H Q, tFA K (fun ρ => M.bind (f ρ) fun x => M.bind (g ρ) fun xs => M.ret (x :: xs)) σ H Q → tCons (tF K f) (tFA K g) σ H Q := by
  rintro σ H Q ⟨ρ, G, b, d, b', rs, fz, ob, e, q⟩
  obtain ⟨x, b1, e1, e⟩ := M.bind_some e
  obtain ⟨xs, b2, e2, e3⟩ := M.bind_some e
  cases e3
  refine ⟨ρ, G, b, x, b1, rs, fz, ob, e1, fun v G1 H1 n1 r1 => ?_⟩
  refine ⟨ρ, G1, b1, xs, b', rs.mono n1.gg, n1.fz, n1.bag, e2, fun vs G2 H2 n2 r2 => ?_⟩
  exact q (v :: vs) G2 H2 (n1.trans n2) (.cons (r1.mono n2.gg) r2)
theorem da_cons {e : Expr} {es : List Expr} {f : Env → M D} {g : Env → M (List D)} (ha : DE X e f) (hr : DA X es g) (hs : starEach (e :: es) X.env = (false, eval e X.env) :: starEach es X.env := by rfl) :
    DA X (e :: es) (fun ρ => M.bind (f ρ) fun x => M.bind (g ρ) fun xs => M.ret (x :: xs)) := PAimp (pa_cons ha hr hs) cons_f
/-! ### new lists, displays -/
theorem dn_f {K : PySem.W.Frag} {f : Env → M (List D)} : ∀ σ H Q, tF K (fun ρ => M.bind (f ρ) fun xs => M.ret (.lst xs)) σ H Q → tN K f σ H Q := by
  rintro σ H Q ⟨ρ, G, b, d, b', rs, fz, ob, e, q⟩
  obtain ⟨xs, b1, e1, e2⟩ := M.bind_some e
  cases e2
  refine ⟨ρ, G, b, xs, b', rs, fz, ob, e1, fun p vs G' H' n hp gp hh r => ?_⟩
  have sg : Same G' (upd G' p (.lst vs)) := fun a o h => by rw [upd_ne (ne_of_none h gp)]; exact h
  refine q (.ref p) (upd G' p (.lst vs)) H' ⟨fun a o h => sg a o (n.gg a o h), fun a o h => ?_, n.keep, fun a o h hn => ?_, ?_, n.like⟩ (.lst upd_same (r.mono sg))
  · by_cases ea : a = p
    · subst ea; rw [upd_same] at h; cases h; exact hh
    · rw [upd_ne ea] at h; exact n.fz a o h
  · rw [upd_ne (ne_of_none h hp)]; exact n.new a o h hn
  · have ob' := n.bag
    cases b' with
    | none => trivial
    | some g =>
      obtain ⟨h1, h2, h3⟩ := ob'
      refine ⟨?_, h2, sg _ _ h3⟩
      have ne : g.p ≠ p := by
        intro z
        have l := Bs.like_at n.like
        cases b with
        | none => cases l
        | some g0 =>
          have l' : g0.p = g.p := Option.some.inj l
          have := ob.2.1
          rw [l', z, hp] at this
          cases this
      rw [upd_ne ne]; exact h1
theorem d_n {e : Expr} {f : Env → M (List D)} (h : DN X e f) : DE X e (fun ρ => M.bind (f ρ) fun xs => M.ret (.lst xs)) := PEimp h dn_f
def szL (xs : List D) : Bool := decide (xs.length ≤ sizeLine)
theorem M.guard_some {α : Type} {c : Bool} {m : M α} {b : Bs} {r : α × Bs} (h : M.guard c m b = some r) : c = true ∧ m b = some r := by
  unfold M.guard at h
  cases c with
  | true => exact ⟨rfl, h⟩
  | false => cases h
theorem dn_lst {es : List Expr} {pos : Pos} {g : Env → M (List D)} (h : DA X es g) : DN X (.List es pos) (fun ρ => M.bind (g ρ) fun xs => M.guard (szL xs) (M.ret xs)) := by
  refine PEimp (pe_lst h) ?_
  rintro σ H Q ⟨ρ, G, b, d, b', rs, fz, ob, e, q⟩
  obtain ⟨xs, b1, e1, e2⟩ := M.bind_some e
  obtain ⟨c, e3⟩ := M.guard_some e2
  cases e3
  refine ⟨ρ, G, b, d, b', rs, fz, ob, e1, fun vs G' H' n r => ⟨by rw [r.length]; exact of_decide_eq_true c, fun p hp => ?_⟩⟩
  have h0 : H p = none := by
    cases e : H p with
    | none => rfl
    | some o =>
      by_cases z : b.at = some p
      · have z2 : b'.at = some p := by rw [← Bs.like_at n.like]; exact z
        have ob' := n.bag
        cases b' with
        | none => cases z2
        | some g =>
          have : g.p = p := Option.some.inj z2
          rw [← this, ob'.2.1] at hp; cases hp
      · rw [n.keep p o e z] at hp; cases hp
  exact q p vs G' _ (n.trans (Nxt.newH n.fz n.bag hp)) h0 (gnone n.fz hp) upd_same r
/-- a place that is free behind a step was free ahead of it -/
theorem Nxt.free {G H G' H' : Hp} {b b' : Bs} {p : Addr} (n : Nxt G H b G' H' b') (hp : H' p = none) : H p = none := by
  cases e : H p with
  | none => rfl
  | some o =>
    by_cases z : b.at = some p
    · have z2 : b'.at = some p := by rw [← Bs.like_at n.like]; exact z
      have ob' := n.bag
      cases b' with
      | none => cases z2
      | some g =>
        have : g.p = p := Option.some.inj z2
        rw [← this, ob'.2.1] at hp; cases hp
    · rw [n.keep p o e z] at hp; cases hp
theorem d_tup {es : List Expr} {k : Nat} {pos : Pos} {g : Env → M (List D)} (h : DA X es g) : DE X (.Tuple es k pos) (fun ρ => M.bind (g ρ) fun xs => M.guard (szL xs) (M.ret (.tup xs))) := by
  refine PEimp (pe_tup h) ?_
  rintro σ H Q ⟨ρ, G, b, d, b', rs, fz, ob, e, q⟩
  obtain ⟨xs, b1, e1, e2⟩ := M.bind_some e
  obtain ⟨c, e3⟩ := M.guard_some e2
  cases e3
  refine ⟨ρ, G, b, xs, b', rs, fz, ob, e1, fun vs G' H' n r => ⟨by rw [r.length]; exact of_decide_eq_true c, fun p hp => ?_⟩⟩
  have m := Nxt.newF (o := .tup vs) n.fz n.bag hp
  exact q (.ref p) _ _ (n.trans m) (.tup (SqT.of upd_same) (r.mono m.gg))
/-! ### tests -/
def truD : D → M Bool
  | .non => M.ret false
  | .bl b => M.ret b
  | .int i => M.ret (i != 0)
  | .str x => M.guard (decide (x.length ≤ sizeLine)) (M.ret (!x.isEmpty))
  | .lst xs => M.ret (!xs.isEmpty)
  | .tup xs => M.ret (!xs.isEmpty)
  | _ => M.fail
theorem RpL.empty {K : PySem.W.Frag} {G : Hp} {vs : List V} {ds : List D} (r : RpL K G vs ds) : vs.isEmpty = ds.isEmpty := by
  cases r <;> rfl
theorem t_val {e : Expr} {f : Env → M D} (h : DE X e f) (he : ∀ whole, isTrue e X.env whole = (do let v ← whole; standAt e.pos; holding [v] (truthy v)) := by intro _; rfl) : DT X e (fun ρ => M.bind (f ρ) truD) := by
  refine PTimp (pt_truth h he) ?_
  rintro σ H Q ⟨ρ, G, b, d, b', rs, fz, ob, e, q⟩
  obtain ⟨x, b1, e1, e2⟩ := M.bind_some e
  refine ⟨ρ, G, b, x, b1, rs, fz, ob, e1, fun v G' H' n r => ?_⟩
  cases r with
  | non => cases e2; exact ⟨false, rfl, q _ _ n⟩
  | bl k => cases e2; exact ⟨_, rfl, q _ _ n⟩
  | int i => cases e2; exact ⟨_, rfl, q _ _ n⟩
  | str x =>
    obtain ⟨c, e3⟩ := M.guard_some e2
    cases e3
    refine ⟨_, ⟨of_decide_eq_true c, ?_⟩, q _ _ n⟩
    show _ = (((⟨x.toArray⟩ : Str).length : Int) != 0)
    cases x with
    | nil => rfl
    | cons c l => rfl
  | lst h1 h2 => cases e2; exact ⟨_, .inl ⟨_, SqL.of (n.fz _ _ h1), by rw [h2.empty]⟩, q _ _ n⟩
  | tup h1 h2 => cases e2; exact ⟨_, .inr (.inl ⟨_, Same.sqt n.fz h1, by rw [h2.empty]⟩), q _ _ n⟩
  | dct h1 h2 h3 => cases e2
  | dcT h1 h2 h3 => cases e2
  | obj h0 h1 h2 h3 => cases e2
  | bag p => cases e2
  | scr h => cases e2
theorem t_not {e : Expr} {pos : Pos} {f : Env → M Bool} (h : DT X e f) : DT X (.UnaryOp .Not e pos) (fun ρ => M.bind (f ρ) fun k => M.ret (!k)) := by
  refine PTimp (pt_not h) ?_
  rintro σ H Q ⟨ρ, G, b, d, b', rs, fz, ob, e, q⟩
  obtain ⟨x, b1, e1, e2⟩ := M.bind_some e
  cases e2
  exact ⟨ρ, G, b, x, b', rs, fz, ob, e1, fun G' H' n => q _ _ n⟩
abbrev DW (X : Cx) (e : Expr) (f : Env → M Bool) : Prop := PW X e (tFT X.K f)
theorem PWimp {e : Expr} {t t' : TT} (h : PW X e t) (i : ∀ σ H Q, t' σ H Q → t σ H Q) : PW X e t' := ⟨fun whole pins s σ H Q I q => h.run whole pins s σ H Q I (i σ H Q q)⟩
variable {a b : Expr} {rest : List Expr} {pos : Pos}
theorem w_and1 {f : Env → M Bool} (ha : DT X a f) : DW X (.BoolOp .And [a] pos) f := pw_and1 ha
theorem w_or1 {f : Env → M Bool} (ha : DT X a f) : DW X (.BoolOp .Or [a] pos) f := pw_or1 ha
theorem w_and {f g : Env → M Bool} (ha : DT X a f) (hb : DW X (.BoolOp .And (b :: rest) pos) g) : DW X (.BoolOp .And (a :: b :: rest) pos) (fun ρ => M.bind (f ρ) fun k => if k = true then g ρ else M.ret false) := by
  refine PWimp (pw_and ha hb) ?_
  rintro σ H Q ⟨ρ, G, b, d, b', rs, fz, ob, e, q⟩
  obtain ⟨k, b1, e1, e2⟩ := M.bind_some e
  refine ⟨ρ, G, b, k, b1, rs, fz, ob, e1, fun G1 H1 n1 => ?_⟩
  cases k with
  | true => exact iteT ⟨ρ, G1, b1, d, b', rs.mono n1.gg, n1.fz, n1.bag, e2, fun G2 H2 n2 => q _ _ (n1.trans n2)⟩
  | false => cases e2; exact iteF (q _ _ n1)
theorem w_or {f g : Env → M Bool} (ha : DT X a f) (hb : DW X (.BoolOp .Or (b :: rest) pos) g) : DW X (.BoolOp .Or (a :: b :: rest) pos) (fun ρ => M.bind (f ρ) fun k => if k = true then M.ret true else g ρ) := by
  refine PWimp (pw_or ha hb) ?_
  rintro σ H Q ⟨ρ, G, b, d, b', rs, fz, ob, e, q⟩
  obtain ⟨k, b1, e1, e2⟩ := M.bind_some e
  refine ⟨ρ, G, b, k, b1, rs, fz, ob, e1, fun G1 H1 n1 => ?_⟩
  cases k with
  | true => cases e2; exact iteT (q _ _ n1)
  | false => exact iteF ⟨ρ, G1, b1, d, b', rs.mono n1.gg, n1.fz, n1.bag, e2, fun G2 H2 n2 => q _ _ (n1.trans n2)⟩
theorem t_w {e : Expr} {f : Env → M Bool} (h : DW X e f) : DT X e f := PW.pt h
/-- and, or, not as values: all but the last are truths -/
theorem d_and {f g : Env → M D} (ha : DE X a f) (hb : DE X (.BoolOp .And (b :: rest) pos) g) : DE X (.BoolOp .And (a :: b :: rest) pos) (fun ρ => M.bind (f ρ) fun x => M.bind (asB x) fun k => if k = true then g ρ else M.ret (.bl false)) := by
  refine PEimp (pe_and ha hb) ?_
  rintro σ H Q ⟨ρ, G, b, d, b', rs, fz, ob, e, q⟩
  obtain ⟨x, b1, e1, e2⟩ := M.bind_some e
  obtain ⟨k, b2, e2, e3⟩ := M.bind_some e2
  obtain ⟨rfl, rfl⟩ := asB_some e2
  refine ⟨ρ, G, b, _, b1, rs, fz, ob, e1, fun v G1 H1 n1 r => ?_⟩
  cases r
  refine ⟨k, rfl, ?_⟩
  cases k with
  | true => exact iteT ⟨ρ, G1, b1, d, b', rs.mono n1.gg, n1.fz, n1.bag, e3, fun v2 G2 H2 n2 r2 => q v2 _ _ (n1.trans n2) r2⟩
  | false => cases e3; exact iteF (q _ _ _ n1 (.bl false))
theorem d_or {f g : Env → M D} (ha : DE X a f) (hb : DE X (.BoolOp .Or (b :: rest) pos) g) : DE X (.BoolOp .Or (a :: b :: rest) pos) (fun ρ => M.bind (f ρ) fun x => M.bind (asB x) fun k => if k = true then M.ret (.bl true) else g ρ) := by
  refine PEimp (pe_or ha hb) ?_
  rintro σ H Q ⟨ρ, G, b, d, b', rs, fz, ob, e, q⟩
  obtain ⟨x, b1, e1, e2⟩ := M.bind_some e
  obtain ⟨k, b2, e2, e3⟩ := M.bind_some e2
  obtain ⟨rfl, rfl⟩ := asB_some e2
  refine ⟨ρ, G, b, _, b1, rs, fz, ob, e1, fun v G1 H1 n1 r => ?_⟩
  cases r
  refine ⟨k, rfl, ?_⟩
  cases k with
  | true => cases e3; exact iteT (q _ _ _ n1 (.bl true))
  | false => exact iteF ⟨ρ, G1, b1, d, b', rs.mono n1.gg, n1.fz, n1.bag, e3, fun v2 G2 H2 n2 r2 => q v2 _ _ (n1.trans n2) r2⟩
theorem d_one {op : BoolOp} {f : Env → M D} (ha : DE X a f) : DE X (.BoolOp op [a] pos) f := pe_one ha
theorem d_not {f : Env → M D} (ha : DE X a f) : DE X (.UnaryOp .Not a pos) (fun ρ => M.bind (f ρ) fun x => M.bind (asB x) fun k => M.ret (.bl (!k))) := by
  refine PEimp (pe_not ha) ?_
  rintro σ H Q ⟨ρ, G, b, d, b', rs, fz, ob, e, q⟩
  obtain ⟨x, b1, e1, e2⟩ := M.bind_some e
  obtain ⟨k, b2, e2, e3⟩ := M.bind_some e2
  obtain ⟨rfl, rfl⟩ := asB_some e2
  cases e3
  refine ⟨ρ, G, b, _, b', rs, fz, ob, e1, fun v G1 H1 n1 r => ?_⟩
  cases r
  exact ⟨k, rfl, q _ _ _ n1 (.bl _)⟩
theorem d_if {c : Expr} {t : Env → M Bool} {f g : Env → M D} (hc : DT X c t) (ha : DE X a f) (hb : DE X b g) : DE X (.IfExp c a b pos) (fun ρ => M.bind (t ρ) fun k => if k = true then f ρ else g ρ) := by
  refine PEimp (pe_ifExp hc ha hb) ?_
  rintro σ H Q ⟨ρ, G, b, d, b', rs, fz, ob, e, q⟩
  obtain ⟨k, b1, e1, e2⟩ := M.bind_some e
  refine ⟨ρ, G, b, k, b1, rs, fz, ob, e1, fun G1 H1 n1 => ?_⟩
  cases k with
  | true => exact iteT ⟨ρ, G1, b1, d, b', rs.mono n1.gg, n1.fz, n1.bag, e2, fun v G2 H2 n2 r => q _ _ _ (n1.trans n2) r⟩
  | false => exact iteF ⟨ρ, G1, b1, d, b', rs.mono n1.gg, n1.fz, n1.bag, e2, fun v G2 H2 n2 r => q _ _ _ (n1.trans n2) r⟩
end
/-! ### calls of what is built in -/
def SndC (K : PySem.W.Frag) (r : List V → Hp → VK → Prop) (g : List D → M D) : Prop := ∀ G H b vs ds d b' Q, RpL K G vs ds → Same G H → BagOk G H b → g ds b = some (d, b') →
  (∀ v G' H', Nxt G H b G' H' b' → Rp K G' v d → Q v H') → r vs H Q
def SndCN (K : PySem.W.Frag) (r : List V → Hp → VK → Prop) (g : List D → M (List D)) : Prop := ∀ G H b vs ds xs b' Q, RpL K G vs ds → Same G H → BagOk G H b → g ds b = some (xs, b') →
  (∀ p ws G' H', Nxt G H b G' H' b' → H p = none → G' p = none → H' p = some (.lst ws) → RpL K G' ws xs → Q (.ref p) H') → r vs H Q
section
variable {X : Cx} {x : Str} {p pos : Pos} {e : Expr} {es : List Expr} {f : Env → M (List D)} {g : List D → M D} {gn : List D → M (List D)} {id T : String} {r : List V → Hp → VK → Prop}
theorem cb_f {K : PySem.W.Frag} (hs : SndC K r g) : ∀ σ H Q, tF K (fun ρ => M.bind (f ρ) g) σ H Q → tCB r (tFA K f) σ H Q := by
  rintro σ H Q ⟨ρ, G, b, d, b', rs, fz, ob, e, q⟩
  obtain ⟨ds, b1, e1, e2⟩ := M.bind_some e
  refine ⟨ρ, G, b, ds, b1, rs, fz, ob, e1, fun vs G1 H1 n1 r1 => ?_⟩
  exact hs G1 H1 b1 vs ds d b' Q r1 n1.fz n1.bag e2 fun v G2 H2 n2 r2 => q v G2 H2 (n1.trans n2) r2
theorem cbn_f {K : PySem.W.Frag} (hs : SndCN K r gn) : ∀ σ H Q, tN K (fun ρ => M.bind (f ρ) gn) σ H Q → tCB r (tFA K f) σ H Q := by
  rintro σ H Q ⟨ρ, G, b, d, b', rs, fz, ob, e, q⟩
  obtain ⟨ds, b1, e1, e2⟩ := M.bind_some e
  refine ⟨ρ, G, b, ds, b1, rs, fz, ob, e1, fun vs G1 H1 n1 r1 => ?_⟩
  exact hs G1 H1 b1 vs ds d b' Q r1 n1.fz n1.bag e2 fun p ws G2 H2 n2 hp gp hh r2 => q p ws G2 H2 (n1.trans n2) (n1.free hp) gp hh r2
theorem d_callB (hc : CallR X (.builtin id) r) (hs : SndC X.K r g) (hg : Gl X x) (hm : X.mg x = none) (hv : bootBuiltins x = some (.builtin id)) (ha : DA X (e :: es) f) (hn : x ≠ "__name__" := by decide) (hdb : (x == ("__debug__" : Str)) = false := by decide)
    (he : starEach (e :: es) X.env = (false, eval e X.env) :: starEach es X.env := by rfl) (hpl : (backTo pos (starEach es X.env)).any (·.1) = false := by rfl) : DE X (.Call (.Name x p) (e :: es) [] pos) (fun ρ => M.bind (f ρ) g) :=
  PEimp (pe_callB hc hg hm hv ha hn hdb he hpl) (cb_f hs)
theorem dn_callB (hc : CallR X (.builtin id) r) (hs : SndCN X.K r gn) (hg : Gl X x) (hm : X.mg x = none) (hv : bootBuiltins x = some (.builtin id)) (ha : DA X (e :: es) f) (hn : x ≠ "__name__" := by decide) (hdb : (x == ("__debug__" : Str)) = false := by decide)
    (he : starEach (e :: es) X.env = (false, eval e X.env) :: starEach es X.env := by rfl) (hpl : (backTo pos (starEach es X.env)).any (·.1) = false := by rfl) : DN X (.Call (.Name x p) (e :: es) [] pos) (fun ρ => M.bind (f ρ) gn) :=
  PEimp (pe_callB hc hg hm hv ha hn hdb he hpl) (cbn_f hs)
theorem d_callTy (hc : CallR X (.type T) r) (hs : SndC X.K r g) (hg : Gl X x) (hm : X.mg x = none) (hv : bootBuiltins x = some (.type T)) (ha : DA X (e :: es) f) (hn : x ≠ "__name__" := by decide) (hdb : (x == ("__debug__" : Str)) = false := by decide)
    (he : starEach (e :: es) X.env = (false, eval e X.env) :: starEach es X.env := by rfl) (hpl : (backTo pos (starEach es X.env)).any (·.1) = false := by rfl) : DE X (.Call (.Name x p) (e :: es) [] pos) (fun ρ => M.bind (f ρ) g) :=
  PEimp (pe_callTy hc hg hm hv ha hn hdb he hpl) (cb_f hs)
theorem dn_callTy (hc : CallR X (.type T) r) (hs : SndCN X.K r gn) (hg : Gl X x) (hm : X.mg x = none) (hv : bootBuiltins x = some (.type T)) (ha : DA X (e :: es) f) (hn : x ≠ "__name__" := by decide) (hdb : (x == ("__debug__" : Str)) = false := by decide)
    (he : starEach (e :: es) X.env = (false, eval e X.env) :: starEach es X.env := by rfl) (hpl : (backTo pos (starEach es X.env)).any (·.1) = false := by rfl) : DN X (.Call (.Name x p) (e :: es) [] pos) (fun ρ => M.bind (f ρ) gn) :=
  PEimp (pe_callTy hc hg hm hv ha hn hdb he hpl) (cbn_f hs)
end
end DL
set_option Elab.async false
set_option maxRecDepth 100000
set_option autoImplicit false
set_option linter.unusedVariables false
set_option maxHeartbeats 4000000
namespace DL
open PySem L2
/-! ### what is walked -/
/-- J yields ds wherever G0 stands frozen -/
def Yl (K : PySem.W.Frag) (G0 : Hp) (J : It) (ds : List D) : Prop := ∀ (i : Nat) (G H : Hp) (b : Bs), Same G0 G → Same G H → BagOk G H b →
  (∀ d, ds[i]? = some d → J.go i H ∧ ∀ x H', J.yld i H x H' → ∃ G', Nxt G H b G' H' b ∧ Rp K G' x d) ∧ (ds.length ≤ i → J.stop i H)
def iF (K : PySem.W.Frag) (g : Env → M (List D)) : TI := fun σ H R => ∃ ρ G b ds b', RS K G σ ρ ∧ Same G H ∧ BagOk G H b ∧ g ρ b = some (ds, b') ∧
  ∀ J G' H', Nxt G H b G' H' b' → Yl K G' J ds → R J H'
/-- .. whatever the heap is -/
def iR (K : PySem.W.Frag) (g : Env → M (List D)) : TI := fun σ H R => ∃ ρ G b ds b', RS K G σ ρ ∧ Same G H ∧ BagOk G H b ∧ g ρ b = some (ds, b') ∧
  ∀ J G' H', Nxt G H b G' H' b' → Yl K (fun _ => none) J ds → R J H'
abbrev DI (X : Cx) (tg e : Expr) (g : Env → M (List D)) : Prop := PI X tg e (iF X.K g)
abbrev DR (X : Cx) (tg e : Expr) (g : Env → M (List D)) : Prop := PI X tg e (iR X.K g)
theorem PIimp {X : Cx} {tg e : Expr} {t t' : TI} (h : PI X tg e t) (i : ∀ σ H Q, t' σ H Q → t σ H Q) : PI X tg e t' := ⟨fun pins s σ H Q I q => h.run pins s σ H Q I (i σ H Q q)⟩
theorem di_r {X : Cx} {tg e : Expr} {g : Env → M (List D)} (h : DR X tg e g) : DI X tg e g := PIimp h fun σ H R ⟨ρ, G, b, ds, b', rs, fz, ob, e, q⟩ =>
  ⟨ρ, G, b, ds, b', rs, fz, ob, e, fun J G' H' n y => q J G' H' n fun i G2 H2 b2 _ f o => y i G2 H2 b2 (fun _ _ z => nomatch z) f o⟩
def itemsD : D → M (List D)
  | .lst xs => M.ret xs
  | .tup xs => M.ret xs
  | .str x => M.ret (x.map fun c => .str [c])
  | _ => M.fail
theorem yl_list {K : PySem.W.Frag} {G : Hp} {a : Addr} {vs : List V} {ds : List D} (h : G a = some (.lst vs)) (r : RpL K G vs ds) : Yl K G (Itl K a) ds := by
  intro i G1 H1 b s1 s2 ob
  have hq : SqL K H1 a vs := SqL.of (s2 _ _ (s1 _ _ h))
  refine ⟨fun d hd => ?_, fun hl => ⟨vs, hq, by rw [r.length]; exact hl⟩⟩
  obtain ⟨v, h1, h2⟩ := r.get hd
  refine ⟨⟨vs, v, hq, h1⟩, ?_⟩
  rintro x H' ⟨rfl, hx⟩
  refine ⟨G1, Nxt.refl s2 ob, ?_⟩
  rw [hx vs hq] at h1
  cases h1
  exact h2.mono s1
theorem yl_tup {K : PySem.W.Frag} {G : Hp} {a : Addr} {vs : List V} {ds : List D} (h : SqT K G a vs) (r : RpL K G vs ds) : Yl K G (Itt K a) ds := by
  intro i G1 H1 b s1 s2 ob
  have hq : SqT K H1 a vs := Same.sqt s2 (Same.sqt s1 h)
  refine ⟨fun d hd => ?_, fun hl => ⟨vs, hq, by rw [r.length]; exact hl⟩⟩
  obtain ⟨v, h1, h2⟩ := r.get hd
  refine ⟨⟨vs, v, hq, h1⟩, ?_⟩
  rintro x H' ⟨rfl, hx⟩
  refine ⟨G1, Nxt.refl s2 ob, ?_⟩
  rw [hx vs hq] at h1
  cases h1
  exact h2.mono s1
theorem yl_str {K : PySem.W.Frag} {G : Hp} (x : List Nat) : Yl K G (Its ⟨x.toArray⟩) (x.map fun c => .str [c]) := by
  intro i G1 H1 b s1 s2 ob
  refine ⟨fun d hd => ?_, fun hl => ?_⟩
  · rw [List.getElem?_map] at hd
    cases e : x[i]? with
    | none => rw [e] at hd; cases hd
    | some c =>
      rw [e] at hd
      cases hd
      have hi : i < x.length := (List.getElem?_eq_some_iff.mp e).1
      refine ⟨by show i < x.toArray.size; simpa using hi, ?_⟩
      rintro y H' ⟨rfl, c', h1, rfl⟩
      have h1' : x.toArray[i]? = some c' := h1
      have : c = c' := by
        rw [List.getElem?_toArray, e] at h1'
        exact Option.some.inj h1'
      subst this
      exact ⟨G1, Nxt.refl s2 ob, Rp.str [c]⟩
  · show x.toArray.size ≤ i
    simpa using hl
theorem yl_range {K : PySem.W.Frag} {G : Hp} (lo : Int) (n : Nat) : Yl K G (Itr lo n) ((List.range n).map fun k => .int (lo + (k : Nat))) := by
  intro i G1 H1 b s1 s2 ob
  refine ⟨fun d hd => ?_, fun hl => by show n ≤ i; simpa using hl⟩
  rw [List.getElem?_map] at hd
  by_cases hi : i < n
  · rw [List.getElem?_range hi] at hd
    cases hd
    refine ⟨hi, ?_⟩
    rintro y H' ⟨rfl, rfl⟩
    exact ⟨G1, Nxt.refl s2 ob, Rp.int _⟩
  · rw [List.getElem?_eq_none (by simpa using hi)] at hd
    cases hd
section
variable {X : Cx} {tg : Expr} {p pos : Pos}
/-- a list, a tuple, a text -/
theorem di_any {e : Expr} {f : Env → M D} (h : DE X e f) : DI X tg e (fun ρ => M.bind (f ρ) itemsD) := by
  have pl := pi_list (tg := tg) h
  have pt := pi_tup (tg := tg) h
  have px := pi_str (tg := tg) h
  refine ⟨fun pins s σ H R I q0 => ?_⟩
  obtain ⟨ρ, G, b, ds, b', rs, fz, ob, e, q⟩ := q0
  obtain ⟨d, b1, e1, e2⟩ := M.bind_some e
  cases d with
  | lst xs =>
    cases e2
    refine pl.run pins s σ H R I ⟨ρ, G, b, _, b', rs, fz, ob, e1, fun v G' H' n r => ?_⟩
    cases r with
    | lst h1 h2 => exact ⟨_, rfl, ⟨_, SqL.of (n.fz _ _ h1)⟩, q _ G' H' n (yl_list h1 h2)⟩
  | tup xs =>
    cases e2
    refine pt.run pins s σ H R I ⟨ρ, G, b, _, b', rs, fz, ob, e1, fun v G' H' n r => ?_⟩
    cases r with
    | tup h1 h2 => exact ⟨_, rfl, ⟨_, Same.sqt n.fz h1⟩, q _ G' H' n (yl_tup h1 h2)⟩
  | str x =>
    cases e2
    refine px.run pins s σ H R I ⟨ρ, G, b, _, b', rs, fz, ob, e1, fun v G' H' n r => ?_⟩
    cases r with
    | str x => exact ⟨_, rfl, q _ G' H' n (yl_str x)⟩
  | dct _ _ => cases e2
  | dcT _ _ => cases e2
  | non => cases e2
  | bl _ => cases e2
  | int _ => cases e2
  | obj _ _ => cases e2
  | bag _ => cases e2
  | scr _ => cases e2
def okR (i : Int) : Bool := decide (-(2 ^ 62) ≤ i) && decide (i < 2 ^ 62)
def rng1 : List D → M (List D)
  | [.int j] => M.guard (okR j) (M.ret ((List.range j.toNat).map fun k => .int (0 + (k : Nat))))
  | _ => M.fail
def rng2 : List D → M (List D)
  | [.int i, .int j] => M.guard (okR i && okR j) (M.ret ((List.range (j - i).toNat).map fun k => .int (i + (k : Nat))))
  | _ => M.fail
theorem dr_range1 {a : Expr} {f : Env → M (List D)} (hg : Gl X "range") (hm : X.mg "range" = none) (ha : DA X [a] f) (hs : starEach [a] X.env = [(false, eval a X.env)] := by rfl) : DR X tg (.Call (.Name "range" p) [a] [] pos) (fun ρ => M.bind (f ρ) rng1) := by
  refine PIimp (pi_range1 hg hm ha hs) ?_
  rintro σ H Q ⟨ρ, G, b, ds, b', rs, fz, ob, e, q⟩
  obtain ⟨d, b1, e1, e2⟩ := M.bind_some e
  refine ⟨ρ, G, b, d, b1, rs, fz, ob, e1, fun vs G' H' n r => ?_⟩
  unfold rng1 at e2
  split at e2
  · obtain ⟨c, e3⟩ := M.guard_some e2
    cases e3
    cases r with
    | cons r1 r2 =>
      cases r2
      cases r1
      have c' := of_decide_eq_true (Bool.and_eq_true_iff.mp c).1
      have c'' := of_decide_eq_true (Bool.and_eq_true_iff.mp c).2
      exact ⟨_, rfl, c', c'', q _ _ _ n (yl_range 0 _)⟩
  · cases e2
theorem dr_range2 {a a2 : Expr} {f : Env → M (List D)} (hg : Gl X "range") (hm : X.mg "range" = none) (ha : DA X [a, a2] f) (hs : starEach [a, a2] X.env = [(false, eval a X.env), (false, eval a2 X.env)] := by rfl) (hs2 : starEach [a2] X.env = [(false, eval a2 X.env)] := by rfl) :
    DR X tg (.Call (.Name "range" p) [a, a2] [] pos) (fun ρ => M.bind (f ρ) rng2) := by
  refine PIimp (pi_range2 hg hm ha hs hs2) ?_
  rintro σ H Q ⟨ρ, G, b, ds, b', rs, fz, ob, e, q⟩
  obtain ⟨d, b1, e1, e2⟩ := M.bind_some e
  refine ⟨ρ, G, b, d, b1, rs, fz, ob, e1, fun vs G' H' n r => ?_⟩
  unfold rng2 at e2
  split at e2
  · obtain ⟨c, e3⟩ := M.guard_some e2
    cases e3
    cases r with
    | cons r1 r2 =>
      cases r2 with
      | cons r2 r3 =>
        cases r3
        cases r1
        cases r2
        obtain ⟨c1, c2⟩ := Bool.and_eq_true_iff.mp c
        exact ⟨_, _, rfl, ⟨of_decide_eq_true (Bool.and_eq_true_iff.mp c1).1, of_decide_eq_true (Bool.and_eq_true_iff.mp c1).2, of_decide_eq_true (Bool.and_eq_true_iff.mp c2).1, of_decide_eq_true (Bool.and_eq_true_iff.mp c2).2⟩, q _ _ _ n (yl_range _ _)⟩
  · cases e2
end
/-! ### targets -/
def setAll (σ : L2.St) : List (Nat × V) → L2.St
  | [] => σ
  | (i, v) :: r => setAll (σ.set i (some v)) r
def setAllD (ρ : Env) : List (Nat × D) → Env
  | [] => ρ
  | (i, d) :: r => setAllD (ρ.set i (some d)) r
abbrev RpP (K : PySem.W.Frag) (G : Hp) : List (Nat × V) → List (Nat × D) → Prop := Paired fun p q => p.1 = q.1 ∧ Rp K G p.2 q.2
def TgOk (K : PySem.W.Frag) (g : TG) (bs : D → Option (List (Nat × D))) (is : List Nat) : Prop := ∀ G v d l, Rp K G v d → bs d = some l →
  ∃ lv, RpP K G lv l ∧ (∀ p ∈ lv, p.1 ∈ is) ∧ ∀ H σ Q, Same G H → Q (setAll σ lv) H → g v σ H Q
def bName (i : Nat) : D → Option (List (Nat × D)) := fun d => some [(i, d)]
theorem tg_name {K : PySem.W.Frag} (i : Nat) : TgOk K (gName i) (bName i) [i] := by
  intro G v d l r e
  cases e
  exact ⟨[(i, v)], .cons ⟨rfl, r⟩ .nil, fun p hp => by simp at hp; subst hp; simp, fun H σ Q _ q => q⟩
def TgsOk (K : PySem.W.Frag) (g : TGs) (bs : List D → Option (List (Nat × D))) (is : List Nat) : Prop := ∀ G vs ds l, RpL K G vs ds → bs ds = some l →
  ∃ lv, RpP K G lv l ∧ (∀ p ∈ lv, p.1 ∈ is) ∧ ∀ H σ Q, Same G H → Q (setAll σ lv) H → g vs σ H Q
def bNil : List D → Option (List (Nat × D))
  | [] => some []
  | _ => none
def bCons (f : D → Option (List (Nat × D))) (g : List D → Option (List (Nat × D))) : List D → Option (List (Nat × D))
  | d :: r => match f d, g r with
    | some l, some l' => some (l ++ l')
    | _, _ => none
  | [] => none
theorem setAll_app (σ : L2.St) : ∀ (l l' : List (Nat × V)), setAll σ (l ++ l') = setAll (setAll σ l) l'
  | [], _ => rfl
  | (i, v) :: r, l' => by show setAll (σ.set i (some v)) (r ++ l') = setAll (setAll (σ.set i (some v)) r) l'; exact setAll_app _ r l'
theorem paired_app {α β : Type} {F : α → β → Prop} : ∀ {a : List α} {b : List β} {c : List α} {d : List β}, Paired F a b → Paired F c d → Paired F (a ++ c) (b ++ d)
  | _, _, _, _, .nil, h => h
  | _, _, _, _, .cons x y, h => .cons x (paired_app y h)
theorem tgs_nil {K : PySem.W.Frag} : TgsOk K gNil bNil [] := by
  intro G vs ds l r e
  cases r with
  | nil => cases e; exact ⟨[], .nil, fun p hp => (nomatch hp), fun H σ Q _ q => ⟨rfl, q⟩⟩
  | cons _ _ => cases e
theorem tgs_cons {K : PySem.W.Frag} {g : TG} {gs : TGs} {f : D → Option (List (Nat × D))} {fs : List D → Option (List (Nat × D))} {is js : List Nat} (h1 : TgOk K g f is) (h2 : TgsOk K gs fs js) : TgsOk K (gCons g gs) (bCons f fs) (is ++ js) := by
  intro G vs ds l r e
  cases r with
  | nil => cases e
  | @cons v vs d ds r1 r2 =>
    unfold bCons at e
    cases e1 : f d with
    | none => simp only [e1] at e; cases e
    | some l1 =>
      cases e2 : fs ds with
      | none => simp only [e1, e2] at e; cases e
      | some l2 =>
        simp only [e1, e2] at e
        cases e
        obtain ⟨lv1, p1, i1, q1⟩ := h1 G v d l1 r1 e1
        obtain ⟨lv2, p2, i2, q2⟩ := h2 G vs ds l2 r2 e2
        refine ⟨lv1 ++ lv2, paired_app p1 p2, fun p hp => ?_, fun H σ Q s q => ?_⟩
        · rcases List.mem_append.mp hp with z | z
          · exact List.mem_append_left _ (i1 p z)
          · exact List.mem_append_right _ (i2 p z)
        · rw [setAll_app] at q
          exact ⟨v, vs, rfl, q1 H σ _ s (q2 H _ Q s q)⟩
def bTup (n : Nat) (f : List D → Option (List (Nat × D))) : D → Option (List (Nat × D))
  | .tup ds => if ds.length = n then f ds else none
  | _ => none
theorem tg_tup {K : PySem.W.Frag} {gs : TGs} {fs : List D → Option (List (Nat × D))} {is : List Nat} (n : Nat) (h : TgsOk K gs fs is) : TgOk K (gTup K n gs) (bTup n fs) is := by
  intro G v d l r e
  cases r with
  | @tup a vs ds h1 h2 =>
    have e' : (if ds.length = n then fs ds else none) = some l := e
    by_cases hn : ds.length = n
    · rw [if_pos hn] at e'
      obtain ⟨lv, p1, i1, q1⟩ := h G vs ds l h2 e'
      exact ⟨lv, p1, i1, fun H σ Q s q => ⟨a, vs, rfl, Same.sqt s h1, by rw [h2.length]; exact hn, q1 H σ Q s q⟩⟩
    · rw [if_neg hn] at e'; cases e'
  | _ => cases e
theorem RS.set {K : PySem.W.Frag} {G : Hp} {σ : L2.St} {ρ : Env} {i : Nat} {v : V} {d : D} (h : RS K G σ ρ) (r : Rp K G v d) : RS K G (σ.set i (some v)) (ρ.set i (some d)) := by
  have hl := h.len
  refine ⟨by simpa using hl, ?_⟩
  intro j d' e
  by_cases hj : i = j
  · subst hj
    by_cases hi : i < ρ.length
    · rw [List.getElem?_set_self hi] at e
      cases e
      exact ⟨v, List.getElem?_set_self (Nat.lt_of_lt_of_le hi hl), r⟩
    · rw [List.getElem?_eq_none (by simpa using hi)] at e
      cases e
  · rw [List.getElem?_set_ne hj] at e
    obtain ⟨w, h1, h2⟩ := h.get j d' e
    exact ⟨w, by rw [List.getElem?_set_ne hj]; exact h1, h2⟩
theorem RS.setAll {K : PySem.W.Frag} {G : Hp} : ∀ {lv : List (Nat × V)} {l : List (Nat × D)} {σ : L2.St} {ρ : Env}, RpP K G lv l → RS K G σ ρ → RS K G (setAll σ lv) (setAllD ρ l)
  | _, _, _, _, .nil, h => h
  | (i, v) :: lv, (j, d) :: l, σ, ρ, .cons ⟨e, r⟩ p, h => by
    have e : i = j := e
    subst e
    exact RS.setAll (lv := lv) (l := l) p (h.set r)
/-! ### comprehensions -/
def wipeD (ρ : Env) : List Nat → Env
  | [] => ρ
  | v :: vs => (wipeD ρ vs).set v none
theorem wipeD_length (ρ : Env) : ∀ vs : List Nat, (wipeD ρ vs).length = ρ.length
  | [] => rfl
  | v :: vs => by unfold wipeD; rw [List.length_set, wipeD_length ρ vs]
theorem RS.wipe {K : PySem.W.Frag} {G : Hp} {σ : L2.St} {ρ : Env} (h : RS K G σ ρ) : ∀ vs : List Nat, RS K G (wipe σ vs) (wipeD ρ vs)
  | [] => h
  | v :: vs => by
    refine ⟨by rw [wipeD_length, wipe_length]; exact h.len, ?_⟩
    intro j d e
    have e' : ((wipeD ρ vs).set v none)[j]? = some (some d) := e
    have ih := RS.wipe h vs
    by_cases hj : v = j
    · subst hj
      by_cases hv : v < (wipeD ρ vs).length
      · rw [List.getElem?_set_self hv] at e'; cases e'
      · rw [List.getElem?_eq_none (by simpa using hv)] at e'; cases e'
    · rw [List.getElem?_set_ne hj] at e'
      obtain ⟨w, h1, h2⟩ := ih.get j d e'
      refine ⟨w, ?_, h2⟩
      show ((L2.wipe σ vs).set v none)[j]? = _
      rw [List.getElem?_set_ne hj]; exact h1
theorem wipe_set_in {σ : L2.St} {v : Nat} {x : Option V} : ∀ {vs : List Nat}, v ∈ vs → wipe (σ.set v x) vs = wipe σ vs
  | [], h => by cases h
  | u :: vs, h => by
    show (wipe (σ.set v x) vs).set u none = (wipe σ vs).set u none
    by_cases hv : v ∈ vs
    · rw [wipe_set_in hv]
    · have e : v = u := by
        rcases List.mem_cons.mp h with e | e
        · exact e
        · exact absurd e hv
      subst e
      have comm : ∀ (τ : L2.St) (ws : List Nat), v ∉ ws → wipe (τ.set v x) ws = (wipe τ ws).set v x := by
        intro τ ws
        induction ws with
        | nil => intro _; rfl
        | cons u ws ih =>
          intro hu
          have h1 : v ≠ u := fun z => hu (by simp [z])
          have h2 : v ∉ ws := fun z => hu (by simp [z])
          show (wipe (τ.set v x) ws).set u none = ((wipe τ ws).set u none).set v x
          rw [ih h2, List.set_comm _ _ h1]
      rw [comm σ vs hv, List.set_set]
theorem wipe_setAll {vs : List Nat} : ∀ {lv : List (Nat × V)} {σ : L2.St}, (∀ p ∈ lv, p.1 ∈ vs) → wipe (setAll σ lv) vs = wipe σ vs
  | [], _, _ => rfl
  | (i, v) :: r, σ, h => by
    show wipe (setAll (σ.set i (some v)) r) vs = wipe σ vs
    rw [wipe_setAll (fun p hp => h p (List.mem_cons_of_mem _ hp)), wipe_set_in (h (i, v) List.mem_cons_self)]
theorem wipe_wipe {σ : L2.St} : ∀ {vs ws : List Nat}, (∀ v ∈ vs, v ∈ ws) → wipe (wipe σ vs) ws = wipe σ ws
  | [], _, _ => rfl
  | v :: vs, ws, h => by
    show wipe ((wipe σ vs).set v none) ws = wipe σ ws
    rw [wipe_set_in (h v List.mem_cons_self), wipe_wipe fun u hu => h u (List.mem_cons_of_mem _ hu)]
theorem wipe_len (σ : L2.St) (vs : List Nat) : (wipe σ vs).length = σ.length := wipe_length σ vs
def compM (bs : D → Option (List (Nat × D))) (c : Env → M Bool) (e : Env → M D) (ρ : Env) : List D → M (List D)
  | [] => M.ret []
  | x :: xs => match bs x with
    | none => M.fail
    | some l => M.bind (c (setAllD ρ l)) fun k => if k = true then M.bind (e (setAllD ρ l)) fun y => M.bind (compM bs c e ρ xs) fun ys => M.ret (y :: ys) else compM bs c e ρ xs
abbrev DTs (X : Cx) (ifs : List Expr) (f : Env → M Bool) : Prop := PTs X ifs (tFT X.K f)
theorem PTsimp {X : Cx} {ifs : List Expr} {t t' : TT} (h : PTs X ifs t) (i : ∀ σ H Q, t' σ H Q → t σ H Q) : PTs X ifs t' := ⟨fun pins s σ H Q I q => h.run pins s σ H Q I (i σ H Q q)⟩
theorem dts_nil {X : Cx} : DTs X [] (fun _ => M.ret true) := by
  refine PTsimp pts_nil ?_
  rintro σ H Q ⟨ρ, G, b, ds, b', rs, fz, ob, e, q⟩
  cases e
  exact q _ _ (Nxt.refl fz ob)
theorem dts_one {X : Cx} {c : Expr} {f : Env → M Bool} (h : DT X c f) : DTs X [c] f := pts_one h
theorem lc_f {K : PySem.W.Frag} {gi : Env → M (List D)} {g : TG} {bs : D → Option (List (Nat × D))} {is vs : List Nat} {c : Env → M Bool} {e : Env → M D} (tg : TgOk K g bs is) (his : ∀ i ∈ is, i ∈ vs) :
    ∀ σ H Q, tN K (fun ρ => M.bind (gi ρ) fun xs => M.bind (compM bs c e (wipeD ρ vs) xs) fun ys => M.guard (szL ys) (M.ret ys)) σ H Q → tLc (iF K gi) g (tFT K c) (tF K e) vs σ H Q := by
  rintro σ H Q ⟨ρ, G, b, ds, b', rs, fz, ob, e0, q⟩
  obtain ⟨xs, b1, e1, e2⟩ := M.bind_some e0
  obtain ⟨ys, b2, e2, e3⟩ := M.bind_some e2
  obtain ⟨hz, e4⟩ := M.guard_some e3
  cases e4
  have hz1 : ds.length ≤ sizeLine := of_decide_eq_true hz
  refine ⟨ρ, G, b, xs, b1, rs, fz, ob, e1, fun J G1 H1 n1 yl Dd hD => ?_⟩
  have m0 : Nxt G1 H1 b1 G1 (upd H1 Dd (.lst [])) b1 := Nxt.newH n1.fz n1.bag hD
  refine ⟨fun i m H2 => m = xs.length - i ∧ i ≤ xs.length ∧ ∃ G2 bb accv acc rest, Nxt G H b G2 H2 bb ∧ Same G1 G2 ∧ G2 Dd = none ∧ H2 Dd = some (.lst accv) ∧ RpL K G2 accv acc ∧ compM bs c e (wipeD ρ vs) (xs.drop i) bb = some (rest, b') ∧ acc ++ rest = ds,
    ⟨xs.length, by simp, Nat.zero_le _, G1, b1, [], [], ds, n1.trans m0, fun _ _ h => h, gnone n1.fz hD, upd_same, .nil, by simpa using e2, rfl⟩, ?_⟩
  rintro i m H2 ⟨rfl, hi, G2, bb, accv, acc, rest, n2, s12, gD, hDd, ra, ec, ea⟩
  have Y := yl i G2 H2 bb s12 n2.fz n2.bag
  by_cases hlt : i < xs.length
  · have hx : xs[i]? = some xs[i] := List.getElem?_eq_getElem hlt
    have hdr : xs.drop i = xs[i] :: xs.drop (i + 1) := List.drop_eq_getElem_cons hlt
    obtain ⟨hgo, hy⟩ := Y.1 _ hx
    refine .inr ⟨hgo, fun H3 => ∃ G2 bb accv acc rest, Nxt G H b G2 H3 bb ∧ Same G1 G2 ∧ G2 Dd = none ∧ H3 Dd = some (.lst accv) ∧ RpL K G2 accv acc ∧ compM bs c e (wipeD ρ vs) (xs.drop (i + 1)) bb = some (rest, b') ∧ acc ++ rest = ds,
      fun H' h' => ⟨xs.length - (i + 1), by omega, rfl, hlt, h'⟩, fun x H3 hyl => ?_⟩
    obtain ⟨G3, n3, rx⟩ := hy x H3 hyl
    rw [hdr] at ec
    unfold compM at ec
    cases eb : bs xs[i] with
    | none => rw [eb] at ec; cases ec
    | some l =>
      rw [eb] at ec
      obtain ⟨lv, pl, il, gq⟩ := tg G3 x xs[i] l rx eb
      refine gq H3 _ _ n3.fz ?_
      have rsb : RS K G3 (setAll (wipe σ vs) lv) (setAllD (wipeD ρ vs) l) := by
        refine RS.setAll pl (RS.wipe (rs.mono ?_) vs)
        exact fun a o h => n3.gg a o (n2.gg a o h)
      refine ⟨?_, ?_⟩
      · rw [wipe_setAll fun p hp => his _ (il p hp)]
        exact wipe_wipe fun v hv => hv
      · obtain ⟨k, b3, ek, ec⟩ := M.bind_some ec
        have gD3 : G3 Dd = none := n3.new Dd _ hDd gD
        have nb : bb.at ≠ some Dd := by rw [← Bs.like_at n2.like]; exact bag_ne ob (n1.free hD)
        have hD3 : H3 Dd = some (.lst accv) := n3.keep Dd _ hDd nb
        refine ⟨_, G3, bb, k, b3, rsb, n3.fz, n3.bag, ek, fun G4 H4 n4 => ?_⟩
        have gD4 : G4 Dd = none := n4.new Dd _ hD3 gD3
        have hD4 : H4 Dd = some (.lst accv) := n4.keep Dd _ hD3 nb
        have nb3 : b3.at ≠ some Dd := by rw [← Bs.like_at n4.like]; exact nb
        cases k with
        | false =>
          refine iteF ⟨G4, b3, accv, acc, rest, (n2.trans n3).trans n4, fun a o h => n4.gg a o (n3.gg a o (s12 a o h)), gD4, hD4, (ra.mono n3.gg).mono n4.gg, ec, ea⟩
        | true =>
          refine iteT ?_
          obtain ⟨y, b4, ey, ec⟩ := M.bind_some ec
          obtain ⟨ys2, b5, ey2, ec⟩ := M.bind_some ec
          cases ec
          refine ⟨_, G4, b3, y, b4, rsb.mono n4.gg, n4.fz, n4.bag, ey, fun v G5 H5 n5 rv => ?_⟩
          have gD5 : G5 Dd = none := n5.new Dd _ hD4 gD4
          have hD5 : H5 Dd = some (.lst accv) := n5.keep Dd _ hD4 nb3
          have la : accv.length = acc.length := ra.length
          have lz : acc.length < sizeLine := by
            have := congrArg List.length ea
            simp at this
            omega
          refine ⟨accv, hD5, by rw [la]; exact lz, ?_⟩
          refine ⟨G5, b4, accv ++ [v], acc ++ [y], ys2, (((n2.trans n3).trans n4).trans n5).mut ob (n1.free hD) gD5, fun a o h => n5.gg a o (n4.gg a o (n3.gg a o (s12 a o h))), gD5, upd_same, (((ra.mono n3.gg).mono n4.gg).mono n5.gg).append (.cons rv .nil), ey2, ?_⟩
          rw [← ea]; simp
  · have e : i = xs.length := by omega
    subst e
    refine .inl ⟨Y.2 (Nat.le_refl _), ?_⟩
    have hr : xs.drop xs.length = [] := by simp
    rw [hr] at ec
    cases ec
    simp at ea
    subst ea
    exact q Dd accv G2 H2 n2 (n1.free hD) gD hDd ra
/-- [e for t in it if c] -/
theorem dn_lc {X : Cx} {elt tg iter : Expr} {ifs : List Expr} {scope : Scope} {own : List (Str × Nat)} {pos : Pos} {gi : Env → M (List D)} {g : TG} {bs : D → Option (List (Nat × D))} {is : List Nat} {c : Env → M Bool} {e : Env → M D}
    (hc : X.calm = true) (hN : X.N.Nodup) (hi : DI X tg iter gi) (ok : BlkOk X.N X.env.scope scope own) (ht : TgOk X.K g bs is) (his : is.all (fun i => (own.map (·.2)).contains i) = true)
    (hg : ∀ (s : Shared) (H : Hp) (C : Addr) (cl : List (Str × Addr)) (fp : List Addr), PG (X.blk s H scope (compEnvC scope cl C X.env) fp) tg g) (htt : ∀ (s : Shared) (H : Hp) (C : Addr) (cl : List (Str × Addr)) (fp : List Addr), DTs (X.blk s H scope (compEnvC scope cl C X.env) fp) ifs c)
    (he : ∀ (s : Shared) (H : Hp) (C : Addr) (cl : List (Str × Addr)) (fp : List Addr), DE (X.blk s H scope (compEnvC scope cl C X.env) fp) elt e) (hs : ∀ x, foldedSetIterable iter X.env x = pure x := by intro _; rfl) :
    DN X (.ListComp elt [⟨tg, iter, ifs, 0⟩] scope pos) (fun ρ => M.bind (gi ρ) fun xs => M.bind (compM bs c e (wipeD ρ (own.map (·.2))) xs) fun ys => M.guard (szL ys) (M.ret ys)) :=
  PEimp (pe_lc hc hN hi ok hg htt he hs) (lc_f ht fun i hi => by
    have := List.all_eq_true.mp his i hi
    simpa using this)
end DL
set_option Elab.async false
set_option maxRecDepth 100000
set_option autoImplicit false
set_option linter.unusedVariables false
set_option maxHeartbeats 4000000
namespace DL
open PySem L2
/-! ### the slots of a body: values, and objects of its own that it may change -/
inductive O where
  | v (d : D) | l (xs : List O) | k (ks : List Key) (xs : List O) | t (ks : List (List Key)) (xs : List O)
mutual
def O.toD : O → D
  | .v d => d
  | .l xs => .lst (O.toDs xs)
  | .k ks xs => .dct ks (O.toDs xs)
  | .t ks xs => .dcT ks (O.toDs xs)
def O.toDs : List O → List D
  | [] => []
  | x :: r => x.toD :: O.toDs r
end
theorem O.toDs_v : ∀ xs : List D, O.toDs (xs.map O.v) = xs
  | [] => rfl
  | x :: r => by
    show _ :: O.toDs (r.map O.v) = _
    rw [O.toDs_v r]; rfl
mutual
/-- v stands for the tree o; the changeable objects of it are fp -/
inductive Ow (K : PySem.W.Frag) (G H : Hp) : V → O → List Addr → Prop
  | v {v : V} {d : D} : Rp K G v d → Ow K G H v (.v d) []
  | l {p : Addr} {vs : List V} {xs : List O} {fp : List Addr} : H p = some (.lst vs) → OwL K G H vs xs fp → Ow K G H (.ref p) (.l xs) (p :: fp)
  | k {p : Addr} {ks : List Key} {vs : List V} {xs : List O} {fp : List Addr} : H p = some (.dK (ks.zip vs)) → ks.length = vs.length → OwL K G H vs xs fp → Ow K G H (.ref p) (.k ks xs) (p :: fp)
  | t {p : Addr} {ks : List (List Key)} {vs : List V} {xs : List O} {fp : List Addr} : H p = some (.dT (ks.zip vs)) → ks.length = vs.length → OwL K G H vs xs fp → Ow K G H (.ref p) (.t ks xs) (p :: fp)
inductive OwL (K : PySem.W.Frag) (G H : Hp) : List V → List O → List Addr → Prop
  | nil : OwL K G H [] [] []
  | cons {v : V} {vs : List V} {x : O} {xs : List O} {fp fq : List Addr} : Ow K G H v x fp → OwL K G H vs xs fq → OwL K G H (v :: vs) (x :: xs) (fp ++ fq)
end
mutual
theorem Ow.mono {K : PySem.W.Frag} {G H G' H' : Hp} (e : Same G G') : ∀ {v : V} {o : O} {fp : List Addr}, (∀ a ∈ fp, H' a = H a) → Ow K G H v o fp → Ow K G' H' v o fp
  | _, _, _, _, .v r => .v (r.mono e)
  | _, _, _, h, .l hp r => .l (by rw [h _ List.mem_cons_self]; exact hp) (OwL.mono e (fun a ha => h a (List.mem_cons_of_mem _ ha)) r)
  | _, _, _, h, .k hp hl r => .k (by rw [h _ List.mem_cons_self]; exact hp) hl (OwL.mono e (fun a ha => h a (List.mem_cons_of_mem _ ha)) r)
  | _, _, _, h, .t hp hl r => .t (by rw [h _ List.mem_cons_self]; exact hp) hl (OwL.mono e (fun a ha => h a (List.mem_cons_of_mem _ ha)) r)
theorem OwL.mono {K : PySem.W.Frag} {G H G' H' : Hp} (e : Same G G') : ∀ {vs : List V} {os : List O} {fp : List Addr}, (∀ a ∈ fp, H' a = H a) → OwL K G H vs os fp → OwL K G' H' vs os fp
  | _, _, _, _, .nil => .nil
  | _, _, _, h, .cons a b => .cons (Ow.mono e (fun z hz => h z (List.mem_append_left _ hz)) a) (OwL.mono e (fun z hz => h z (List.mem_append_right _ hz)) b)
end
mutual
theorem Ow.rp {K : PySem.W.Frag} {G H Gp : Hp} (e : Same G Gp) : ∀ {v : V} {o : O} {fp : List Addr}, (∀ a ∈ fp, Gp a = H a) → Ow K G H v o fp → Rp K Gp v o.toD
  | _, _, _, _, .v r => r.mono e
  | _, _, _, h, .l hp r => .lst (by rw [h _ List.mem_cons_self]; exact hp) (OwL.rp e (fun a ha => h a (List.mem_cons_of_mem _ ha)) r)
  | _, _, _, h, .k hp hl r => .dct (by rw [h _ List.mem_cons_self]; exact hp) hl (OwL.rp e (fun a ha => h a (List.mem_cons_of_mem _ ha)) r)
  | _, _, _, h, .t hp hl r => .dcT (by rw [h _ List.mem_cons_self]; exact hp) hl (OwL.rp e (fun a ha => h a (List.mem_cons_of_mem _ ha)) r)
theorem OwL.rp {K : PySem.W.Frag} {G H Gp : Hp} (e : Same G Gp) : ∀ {vs : List V} {os : List O} {fp : List Addr}, (∀ a ∈ fp, Gp a = H a) → OwL K G H vs os fp → RpL K Gp vs (O.toDs os)
  | _, _, _, _, .nil => .nil
  | _, _, _, h, .cons a b => .cons (Ow.rp e (fun z hz => h z (List.mem_append_left _ hz)) a) (OwL.rp e (fun z hz => h z (List.mem_append_right _ hz)) b)
end
theorem OwL.flat {K : PySem.W.Frag} {G H : Hp} : ∀ {vs : List V} {ds : List D}, RpL K G vs ds → OwL K G H vs (ds.map O.v) []
  | _, _, .nil => .nil
  | _, _, .cons a r => OwL.cons (fp := []) (fq := []) (.v a) (OwL.flat r)
theorem OwL.unflat {K : PySem.W.Frag} {G H : Hp} : ∀ {vs : List V} {ds : List D} {fp : List Addr}, OwL K G H vs (ds.map O.v) fp → RpL K G vs ds ∧ fp = []
  | _, [], _, .nil => ⟨.nil, rfl⟩
  | _, d :: ds, _, .cons (.v a) r => by
    obtain ⟨h1, h2⟩ := OwL.unflat r
    exact ⟨.cons a h1, by rw [h2]; rfl⟩
theorem OwL.length {K : PySem.W.Frag} {G H : Hp} : ∀ {vs : List V} {os : List O} {fp : List Addr}, OwL K G H vs os fp → vs.length = os.length
  | _, _, _, .nil => rfl
  | _, _, _, .cons _ b => by simp [OwL.length b]
inductive Slot where
  | val (d : D)
  | own (xs : List D)
  | tr (o : O)
def Slot.see : Slot → D
  | .val d => d
  | .own xs => .lst xs
  | .tr o => o.toD
def Slot.tree : Slot → Option O
  | .val _ => none
  | .own xs => some (.l (xs.map O.v))
  | .tr o => some o
theorem Slot.see_tree {s : Slot} {o : O} (h : s.tree = some o) : s.see = o.toD := by
  cases s with
  | val d => cases h
  | own xs => cases h; show D.lst xs = .lst (O.toDs (xs.map O.v)); rw [O.toDs_v]
  | tr o => cases h; rfl
abbrev Env2 := List (Option Slot)
def viewAt (ms : List Nat) : Nat → Env2 → Env
  | _, [] => []
  | i, s :: r => (if ms.contains i then s.map Slot.see else none) :: viewAt ms (i + 1) r
def view (ms : List Nat) (ρ : Env2) : Env := viewAt ms 0 ρ
def frzAt (ms : List Nat) : Nat → Env2 → Env2
  | _, [] => []
  | i, s :: r => (if ms.contains i then s.map (fun s => Slot.val s.see) else s) :: frzAt ms (i + 1) r
def frz (ms : List Nat) (ρ : Env2) : Env2 := frzAt ms 0 ρ
theorem viewAt_get (ms : List Nat) : ∀ (ρ : Env2) (k i : Nat), (viewAt ms k ρ)[i]? = ρ[i]?.map fun s => if ms.contains (k + i) then s.map Slot.see else none
  | [], k, i => by simp [viewAt]
  | s :: r, k, 0 => by simp [viewAt]
  | s :: r, k, i + 1 => by
    simp only [viewAt, List.getElem?_cons_succ]
    rw [viewAt_get ms r (k + 1) i, show k + 1 + i = k + (i + 1) by omega]
theorem frzAt_get (ms : List Nat) : ∀ (ρ : Env2) (k i : Nat), (frzAt ms k ρ)[i]? = ρ[i]?.map fun s => if ms.contains (k + i) then s.map (fun s => Slot.val s.see) else s
  | [], k, i => by simp [frzAt]
  | s :: r, k, 0 => by simp [frzAt]
  | s :: r, k, i + 1 => by
    simp only [frzAt, List.getElem?_cons_succ]
    rw [frzAt_get ms r (k + 1) i, show k + 1 + i = k + (i + 1) by omega]
theorem viewAt_len (ms : List Nat) : ∀ (ρ : Env2) (k : Nat), (viewAt ms k ρ).length = ρ.length
  | [], _ => rfl
  | _ :: r, k => by simp [viewAt, viewAt_len ms r]
theorem frzAt_len (ms : List Nat) : ∀ (ρ : Env2) (k : Nat), (frzAt ms k ρ).length = ρ.length
  | [], _ => rfl
  | _ :: r, k => by simp [frzAt, frzAt_len ms r]
theorem view_some {ms : List Nat} {ρ : Env2} {i : Nat} {d : D} (h : (view ms ρ)[i]? = some (some d)) : ms.contains i = true ∧ ∃ s, ρ[i]? = some (some s) ∧ s.see = d := by
  unfold view at h
  rw [viewAt_get, Nat.zero_add] at h
  cases e : ρ[i]? with
  | none => rw [e] at h; cases h
  | some o =>
    rw [e] at h
    simp only [Option.map_some, Option.some.injEq] at h
    cases hc : ms.contains i with
    | false => rw [hc] at h; cases h
    | true =>
      rw [hc] at h
      cases o with
      | none => cases h
      | some s => simp at h; exact ⟨rfl, s, rfl, h⟩
theorem frz_in {ms : List Nat} {ρ : Env2} {i : Nat} {s : Slot} (h : (frz ms ρ)[i]? = some (some s)) : (ms.contains i = true ∧ ∃ s0, ρ[i]? = some (some s0) ∧ s = .val s0.see) ∨ (ms.contains i = false ∧ ρ[i]? = some (some s)) := by
  unfold frz at h
  rw [frzAt_get, Nat.zero_add] at h
  cases e : ρ[i]? with
  | none => rw [e] at h; cases h
  | some o =>
    rw [e] at h
    simp only [Option.map_some, Option.some.injEq] at h
    cases hc : ms.contains i with
    | false => rw [hc] at h; simp at h; exact .inr ⟨rfl, by rw [h]⟩
    | true =>
      rw [hc] at h
      cases o with
      | none => cases h
      | some s0 => simp at h; exact .inl ⟨rfl, s0, rfl, h.symm⟩
/-! ### the state of a body since its entry -/
structure En where
  G : Hp
  H : Hp
  b : Bs
structure OwnAll (K : PySem.W.Frag) (EH : Hp) (σ : L2.St) (ρ : Env2) (G H : Hp) (b : Bs) (fp : Nat → List Addr) : Prop where
  at_ : ∀ (i : Nat) (s : Slot) (o : O), ρ[i]? = some (some s) → s.tree = some o → ∃ v, σ[i]? = some (some v) ∧ Ow K G H v o (fp i)
  ok : ∀ (i : Nat) (a : Addr), a ∈ fp i → EH a = none ∧ G a = none ∧ b.at ≠ some a ∧ H a ≠ none
  nd : ∀ i, (fp i).Nodup
  dj : ∀ (i j : Nat) (a : Addr), a ∈ fp i → a ∈ fp j → i = j
structure SI (K : PySem.W.Frag) (E : En) (σ : L2.St) (ρ : Env2) (G H : Hp) (b : Bs) : Prop where
  fz : Same G H
  g0 : Same E.G G
  new : ∀ a o, E.H a = some o → E.G a = none → G a = none
  keep : ∀ a o, E.H a = some o → E.b.at ≠ some a → H a = some o
  bag : BagOk G H b
  like : E.b.like b
  len : ρ.length ≤ σ.length
  val : ∀ (i : Nat) (d : D), ρ[i]? = some (some (Slot.val d)) → ∃ v, σ[i]? = some (some v) ∧ Rp K G v d
  own : ∃ fp : Nat → List Addr, OwnAll K E.H σ ρ G H b fp
section
variable {K : PySem.W.Frag} {E : En} {σ : L2.St} {ρ : Env2} {G H G' H' : Hp} {b b' : Bs}
theorem SI.nxt (I : SI K E σ ρ G H b) : Nxt E.G E.H E.b G H b := ⟨I.g0, I.fz, I.keep, I.new, I.bag, I.like⟩
theorem some_of {H : Hp} {a : Addr} (h : H a ≠ none) : ∃ o, H a = some o := by
  cases e : H a with
  | none => exact absurd e h
  | some o => exact ⟨o, rfl⟩
theorem OwnAll.step {fp : Nat → List Addr} (w : OwnAll K E.H σ ρ G H b fp) (n : Nxt G H b G' H' b') : OwnAll K E.H σ ρ G' H' b' fp where
  at_ := fun i s o h1 h2 => by
    obtain ⟨v, h3, h4⟩ := w.at_ i s o h1 h2
    refine ⟨v, h3, h4.mono n.gg fun a ha => ?_⟩
    obtain ⟨_, _, k3, k4⟩ := w.ok i a ha
    obtain ⟨u, hu⟩ := some_of k4
    rw [n.keep a u hu k3, hu]
  ok := fun i a ha => by
    obtain ⟨k1, k2, k3, k4⟩ := w.ok i a ha
    obtain ⟨u, hu⟩ := some_of k4
    refine ⟨k1, n.new a u hu k2, by rw [← Bs.like_at n.like]; exact k3, ?_⟩
    rw [n.keep a u hu k3]
    exact fun z => nomatch z
  nd := w.nd
  dj := w.dj
theorem SI.step (I : SI K E σ ρ G H b) (n : Nxt G H b G' H' b') : SI K E σ ρ G' H' b' := by
  have t := I.nxt.trans n
  refine ⟨t.fz, t.gg, t.new, t.keep, t.bag, t.like, I.len, fun i d h => ?_, ?_⟩
  · obtain ⟨v, h1, h2⟩ := I.val i d h
    exact ⟨v, h1, h2.mono n.gg⟩
  · obtain ⟨fp, w⟩ := I.own
    exact ⟨fp, w.step n⟩
/-- the objects at the places ms, frozen for a while -/
noncomputable def SI.gp (I : SI K E σ ρ G H b) (ms : List Nat) : Hp := fun a =>
  haveI := Classical.propDecidable (∃ i : Nat, ms.contains i = true ∧ a ∈ Classical.choose I.own i)
  if ∃ i : Nat, ms.contains i = true ∧ a ∈ Classical.choose I.own i then H a else G a
theorem SI.gp_in (I : SI K E σ ρ G H b) {ms : List Nat} {i : Nat} {a : Addr} (h1 : ms.contains i = true) (h2 : a ∈ Classical.choose I.own i) : I.gp ms a = H a := by
  unfold SI.gp
  exact if_pos ⟨i, h1, h2⟩
theorem SI.gp_out (I : SI K E σ ρ G H b) {ms : List Nat} {a : Addr} (h : ¬ ∃ i : Nat, ms.contains i = true ∧ a ∈ Classical.choose I.own i) : I.gp ms a = G a := by
  unfold SI.gp
  exact if_neg h
theorem SI.gp1 (I : SI K E σ ρ G H b) (ms : List Nat) : Same G (I.gp ms) := fun a o h => by
  rw [I.gp_out]
  · exact h
  · rintro ⟨i, _, h2⟩
    rw [((Classical.choose_spec I.own).ok i a h2).2.1] at h
    cases h
theorem SI.gp2 (I : SI K E σ ρ G H b) (ms : List Nat) : Same (I.gp ms) H := fun a o h => by
  haveI := Classical.propDecidable (∃ i : Nat, ms.contains i = true ∧ a ∈ Classical.choose I.own i)
  by_cases c : ∃ i : Nat, ms.contains i = true ∧ a ∈ Classical.choose I.own i
  · obtain ⟨i, h1, h2⟩ := c
    rw [I.gp_in h1 h2] at h
    exact h
  · rw [I.gp_out c] at h
    exact I.fz a o h
theorem SI.gpb (I : SI K E σ ρ G H b) (ms : List Nat) : BagOk (I.gp ms) H b := by
  have h1 : ∀ g, b = some g → I.gp ms g.p = none := fun g hg => by
    rw [I.gp_out]
    · have := I.bag
      rw [hg] at this
      exact this.1
    · rintro ⟨i, _, h2⟩
      exact ((Classical.choose_spec I.own).ok i _ h2).2.2.1 (by rw [hg]; rfl)
  have h2 := I.gp1 ms
  have ob := I.bag
  generalize I.gp ms = gpx at h1 h2
  clear I
  cases b with
  | none => trivial
  | some g => exact ⟨h1 g rfl, ob.2.1, h2 _ _ ob.2.2⟩
theorem SI.rs (I : SI K E σ ρ G H b) (ms : List Nat) : RS K (I.gp ms) σ (view ms ρ) := by
  refine ⟨by unfold view; rw [viewAt_len]; exact I.len, fun i d h => ?_⟩
  obtain ⟨hm, s, hs, rfl⟩ := view_some h
  cases ht : s.tree with
  | none =>
    cases s with
    | val d =>
      obtain ⟨v, h1, h2⟩ := I.val i d hs
      exact ⟨v, h1, h2.mono (I.gp1 ms)⟩
    | own _ => cases ht
    | tr _ => cases ht
  | some o =>
    obtain ⟨v, h1, h2⟩ := (Classical.choose_spec I.own).at_ i s o hs ht
    refine ⟨v, h1, ?_⟩
    rw [Slot.see_tree ht]
    exact h2.rp (I.gp1 ms) fun a ha => I.gp_in hm ha
theorem bag_not {a : Addr} {o : HO} (ob : BagOk G H b) (h : G a = some o) : b.at ≠ some a := fun z => by
  cases b with
  | none => cases z
  | some g => cases z; rw [ob.1] at h; cases h
theorem SI.flatW (I : SI K E σ ρ G H b) {ms : List Nat} (n : Nxt (I.gp ms) H b G' H' b') : ∃ fp, OwnAll K E.H σ ρ G H' b' fp ∧ ∀ j a, a ∈ fp j → H a ≠ none := by
  obtain ⟨fp, w⟩ := I.own
  refine ⟨fp, ⟨fun i s o h1 h2 => ?_, fun i a ha => ?_, w.nd, w.dj⟩, fun j a ha => (w.ok j a ha).2.2.2⟩
  · obtain ⟨v, h3, h4⟩ := w.at_ i s o h1 h2
    refine ⟨v, h3, h4.mono (fun _ _ h => h) fun a ha => ?_⟩
    obtain ⟨_, _, k3, k4⟩ := w.ok i a ha
    obtain ⟨u, hu⟩ := some_of k4
    rw [n.keep a u hu k3, hu]
  · obtain ⟨k1, k2, k3, k4⟩ := w.ok i a ha
    obtain ⟨u, hu⟩ := some_of k4
    refine ⟨k1, k2, by rw [← Bs.like_at n.like]; exact k3, ?_⟩
    rw [n.keep a u hu k3]
    exact fun z => nomatch z
/-- behind an expression whose value holds no place: all as it was -/
theorem SI.flat (I : SI K E σ ρ G H b) {ms : List Nat} (n : Nxt (I.gp ms) H b G' H' b') : SI K E σ ρ G H' b' := by
  have nb : ∀ a o, G a = some o → b.at ≠ some a := fun a o h => bag_not I.bag h
  refine ⟨fun a o h => n.keep a o (I.fz a o h) (nb a o h), I.g0, I.new, fun a o h hb => n.keep a o (I.keep a o h hb) (by rw [← Bs.like_at I.like]; exact hb), ?_, Bs.like_trans I.like n.like, I.len, I.val, ?_⟩
  · have ob := I.bag
    have ob' := n.bag
    have l := n.like
    cases b with
    | none => cases b' with
      | none => trivial
      | some _ => exact l.elim
    | some g => cases b' with
      | none => exact l.elim
      | some g' =>
        obtain ⟨l1, l2, l3⟩ := l
        refine ⟨by rw [← l1]; exact ob.1, ob'.2.1, ?_⟩
        rw [← l2, ← l3]; exact ob.2.2
  · obtain ⟨fp, w, _⟩ := I.flatW n
    exact ⟨fp, w⟩
theorem SI.frzW (I : SI K E σ ρ G H b) {ms : List Nat} (n : Nxt (I.gp ms) H b G' H' b') : ∃ fp, OwnAll K E.H σ (frz ms ρ) G' H' b' fp ∧ ∀ j a, a ∈ fp j → H a ≠ none := by
  have gg : Same G G' := fun a o h => n.gg a o (I.gp1 ms a o h)
  have w := Classical.choose_spec I.own
  have hin : ∀ i a, a ∈ (if ms.contains i = true then [] else Classical.choose I.own i) → ms.contains i = false ∧ a ∈ Classical.choose I.own i := fun i a ha => by
    by_cases hm : ms.contains i = true
    · rw [if_pos hm] at ha; cases ha
    · rw [if_neg hm] at ha; exact ⟨by simpa using hm, ha⟩
  refine ⟨fun i => if ms.contains i = true then [] else Classical.choose I.own i, ⟨fun i s o h1 h2 => ?_, fun i a ha => ?_, fun i => ?_, fun i j a ha hb => w.dj i j a (hin i a ha).2 (hin j a hb).2⟩, fun j a ha => (w.ok j a (hin j a ha).2).2.2.2⟩
  · rcases frz_in h1 with ⟨hm, s0, hs, e⟩ | ⟨hm, hs⟩
    · rw [e] at h2; cases h2
    · obtain ⟨v, h3, h4⟩ := w.at_ i s o hs h2
      show ∃ v, σ[i]? = some (some v) ∧ Ow K G' H' v o (if ms.contains i = true then [] else Classical.choose I.own i)
      rw [if_neg (by rw [hm]; exact Bool.false_ne_true)]
      refine ⟨v, h3, h4.mono gg fun a ha => ?_⟩
      obtain ⟨_, _, k3, k4⟩ := w.ok i a ha
      obtain ⟨u, hu⟩ := some_of k4
      rw [n.keep a u hu k3, hu]
  · obtain ⟨hm, ha⟩ := hin i a ha
    obtain ⟨k1, k2, k3, k4⟩ := w.ok i a ha
    obtain ⟨u, hu⟩ := some_of k4
    refine ⟨k1, n.new a u hu ?_, by rw [← Bs.like_at n.like]; exact k3, ?_⟩
    · rw [I.gp_out]
      · exact k2
      · rintro ⟨j, hj, h2⟩
        rw [w.dj i j a ha h2, hj] at hm
        cases hm
    · rw [n.keep a u hu k3]
      exact fun z => nomatch z
  · show (if ms.contains i = true then [] else Classical.choose I.own i).Nodup
    split
    · exact List.nodup_nil
    · exact w.nd i
theorem SI.frz (I : SI K E σ ρ G H b) {ms : List Nat} (n : Nxt (I.gp ms) H b G' H' b') : SI K E σ (frz ms ρ) G' H' b' := by
  have gg : Same G G' := fun a o h => n.gg a o (I.gp1 ms a o h)
  have w := Classical.choose_spec I.own
  refine ⟨n.fz, fun a o h => gg a o (I.g0 a o h), fun a o h hn => ?_, fun a o h hb => n.keep a o (I.keep a o h hb) (by rw [← Bs.like_at I.like]; exact hb), n.bag, Bs.like_trans I.like n.like,
    by unfold DL.frz; rw [frzAt_len]; exact I.len, fun i d h => ?_, ?_⟩
  · by_cases z : E.b.at = some a
    · have z2 : b'.at = some a := by rw [← Bs.like_at (Bs.like_trans I.like n.like)]; exact z
      have ob' := n.bag
      cases b' with
      | none => cases z2
      | some g => cases z2; exact ob'.1
    · refine n.new a o (I.keep a o h z) ?_
      rw [I.gp_out]
      · exact I.new a o h hn
      · rintro ⟨i, _, h2⟩
        rw [(w.ok i a h2).1] at h
        cases h
  · rcases frz_in h with ⟨hm, s0, hs, e⟩ | ⟨hm, hs⟩
    · cases e
      obtain ⟨v, h1, h2⟩ := (I.rs ms).get i s0.see (by
        unfold view
        rw [viewAt_get, hs, Nat.zero_add, hm]
        rfl)
      exact ⟨v, h1, h2.mono n.gg⟩
    · obtain ⟨v, h1, h2⟩ := I.val i d hs
      exact ⟨v, h1, h2.mono gg⟩
  · obtain ⟨fp, w, _⟩ := I.frzW n
    exact ⟨fp, w⟩
theorem set_old {i j : Nat} {s s' : Slot} (hj : i ≠ j) (h : (ρ.set i (some s))[j]? = some (some s')) : ρ[j]? = some (some s') := by
  rw [List.getElem?_set_ne hj] at h; exact h
theorem set_self {i : Nat} {s s' : Slot} (h : (ρ.set i (some s))[i]? = some (some s')) : s' = s ∧ i < ρ.length := by
  by_cases hi : i < ρ.length
  · rw [List.getElem?_set_self hi] at h; cases h; exact ⟨rfl, hi⟩
  · rw [List.getElem?_eq_none (by simpa using hi)] at h; cases h
theorem SI.set (I : SI K E σ ρ G H b) {i : Nat} {v : V} {d : D} (r : Rp K G v d) : SI K E (σ.set i (some v)) (ρ.set i (some (.val d))) G H b := by
  obtain ⟨fp, w⟩ := I.own
  refine ⟨I.fz, I.g0, I.new, I.keep, I.bag, I.like, by simpa using I.len, fun j d' h => ?_, fp, fun j s o h1 h2 => ?_, w.ok, w.nd, w.dj⟩
  · by_cases hj : i = j
    · subst hj
      obtain ⟨e, hi⟩ := set_self h
      cases e
      exact ⟨v, List.getElem?_set_self (Nat.lt_of_lt_of_le hi I.len), r⟩
    · obtain ⟨u, e1, e2⟩ := I.val j d' (set_old hj h)
      exact ⟨u, by rw [List.getElem?_set_ne hj]; exact e1, e2⟩
  · by_cases hj : i = j
    · subst hj
      obtain ⟨e, hi⟩ := set_self h1
      subst e
      cases h2
    · obtain ⟨u, e1, e2⟩ := w.at_ j s o (set_old hj h1) h2
      exact ⟨u, by rw [List.getElem?_set_ne hj]; exact e1, e2⟩
/-- a slot gets a new object of its own -/
theorem SI.setTree (I : SI K E σ ρ G H b) {i : Nat} {v : V} {s : Slot} {o : O} {fq : List Addr} (hs : s.tree = some o) (hw : Ow K G H v o fq) (nd : fq.Nodup) (ok : ∀ a ∈ fq, E.H a = none ∧ G a = none ∧ b.at ≠ some a ∧ H a ≠ none)
    {fp : Nat → List Addr} (w : OwnAll K E.H σ ρ G H b fp) (dis : ∀ a ∈ fq, ∀ j, a ∉ fp j) : SI K E (σ.set i (some v)) (ρ.set i (some s)) G H b := by
  refine ⟨I.fz, I.g0, I.new, I.keep, I.bag, I.like, by simpa using I.len, fun j d' h => ?_, fun j => if j = i then fq else fp j, fun j s' o' h1 h2 => ?_, fun j a ha => ?_, fun j => ?_, fun j k a ha hb => ?_⟩
  · by_cases hj : i = j
    · subst hj
      obtain ⟨e, hi⟩ := set_self h
      rw [← e] at hs
      cases hs
    · obtain ⟨u, e1, e2⟩ := I.val j d' (set_old hj h)
      exact ⟨u, by rw [List.getElem?_set_ne hj]; exact e1, e2⟩
  · by_cases hj : i = j
    · subst hj
      obtain ⟨e, hi⟩ := set_self h1
      rw [e, hs] at h2
      cases h2
      refine ⟨v, List.getElem?_set_self (Nat.lt_of_lt_of_le hi I.len), ?_⟩
      show Ow K G H v o (if i = i then fq else fp i)
      rw [if_pos rfl]
      exact hw
    · obtain ⟨u, e1, e2⟩ := w.at_ j s' o' (set_old hj h1) h2
      refine ⟨u, by rw [List.getElem?_set_ne hj]; exact e1, ?_⟩
      show Ow K G H u o' (if j = i then fq else fp j)
      rw [if_neg (Ne.symm hj)]
      exact e2
  · have ha : a ∈ (if j = i then fq else fp j) := ha
    split at ha
    · exact ok a ha
    · exact w.ok j a ha
  · show (if j = i then fq else fp j).Nodup
    split
    · exact nd
    · exact w.nd j
  · have ha : a ∈ (if j = i then fq else fp j) := ha
    have hb : a ∈ (if k = i then fq else fp k) := hb
    split at ha
    · rename_i ej
      split at hb
      · rename_i ek; rw [ej, ek]
      · rename_i nk; exact absurd hb (dis a ha k)
    · rename_i nj
      split at hb
      · exact absurd ha (dis a hb j)
      · exact w.dj j k a ha hb
/-- what slot i holds becomes another tree; only its objects change, and new ones come -/
theorem SI.retree (I : SI K E σ ρ G H b) {i : Nat} {s s' : Slot} {o' : O} (hi : ρ[i]? = some (some s)) (hs' : s'.tree = some o') {v : V} (hv : σ[i]? = some (some v)) {fq : List Addr} {fp : Nat → List Addr} (w : OwnAll K E.H σ ρ G H b fp)
    (hw : Ow K G H' v o' fq) (nd : fq.Nodup) (sub : ∀ a ∈ fq, (a ∈ fp i ∧ H' a ≠ none) ∨ (H a = none ∧ H' a ≠ none)) (same : ∀ a, a ∉ fp i → H a ≠ none → H' a = H a) : SI K E σ (ρ.set i (some s')) G H' b := by
  have hil : i < ρ.length := (List.getElem?_eq_some_iff.mp hi).1
  have out : ∀ a o, G a = some o → a ∉ fp i := fun a o h hf => by
    rw [(w.ok i a hf).2.1] at h; cases h
  have kp : ∀ a o, a ∉ fp i → H a = some o → H' a = some o := fun a o hf h => by
    rw [same a hf (by rw [h]; exact fun z => nomatch z)]; exact h
  refine ⟨fun a o h => kp a o (out a o h) (I.fz a o h), I.g0, I.new, fun a o h hb => ?_, ?_, I.like, by simpa using I.len, fun j d' h => ?_, fun j => if j = i then fq else fp j, fun j s2 o2 h1 h2 => ?_, fun j a ha => ?_, fun j => ?_, fun j k a ha hb => ?_⟩
  · refine kp a o (fun hf => ?_) (I.keep a o h hb)
    rw [(w.ok i a hf).1] at h; cases h
  · have ob := I.bag
    cases e : b with
    | none => trivial
    | some g =>
      subst e
      refine ⟨ob.1, kp _ _ (fun hf => (w.ok i _ hf).2.2.1 rfl) ob.2.1, ob.2.2⟩
  · by_cases hj : i = j
    · subst hj
      obtain ⟨e, _⟩ := set_self h
      rw [← e] at hs'
      cases hs'
    · exact I.val j d' (set_old hj h)
  · by_cases hj : i = j
    · subst hj
      obtain ⟨e, _⟩ := set_self h1
      rw [e, hs'] at h2
      cases h2
      refine ⟨v, hv, ?_⟩
      show Ow K G H' v o' (if i = i then fq else fp i)
      rw [if_pos rfl]
      exact hw
    · obtain ⟨u, e1, e2⟩ := w.at_ j s2 o2 (set_old hj h1) h2
      refine ⟨u, e1, ?_⟩
      show Ow K G H' u o2 (if j = i then fq else fp j)
      rw [if_neg (Ne.symm hj)]
      refine e2.mono (fun _ _ h => h) fun a ha => same a (fun hf => hj (w.dj i j a hf ha)) (w.ok j a ha).2.2.2
  · have ha : a ∈ (if j = i then fq else fp j) := ha
    split at ha
    · rcases sub a ha with ⟨h1, h2⟩ | ⟨h1, h2⟩
      · obtain ⟨k1, k2, k3, _⟩ := w.ok i a h1
        exact ⟨k1, k2, k3, h2⟩
      · exact ⟨I.nxt.free h1, gnone I.fz h1, bag_ne I.bag h1, h2⟩
    · rename_i nj
      obtain ⟨k1, k2, k3, k4⟩ := w.ok j a ha
      refine ⟨k1, k2, k3, ?_⟩
      rw [same a (fun hf => nj (w.dj i j a hf ha).symm) k4]
      exact k4
  · show (if j = i then fq else fp j).Nodup
    split
    · exact nd
    · exact w.nd j
  · have ha : a ∈ (if j = i then fq else fp j) := ha
    have hb : a ∈ (if k = i then fq else fp k) := hb
    have cross : ∀ j a, a ∈ fq → j ≠ i → a ∉ fp j := fun j a h1 h2 h3 => by
      rcases sub a h1 with ⟨h4, _⟩ | ⟨h4, _⟩
      · exact h2 (w.dj i j a h4 h3).symm
      · exact (w.ok j a h3).2.2.2 h4
    split at ha
    · rename_i ej
      split at hb
      · rename_i ek; rw [ej, ek]
      · rename_i nk; exact absurd hb (cross k a ha nk)
    · rename_i nj
      split at hb
      · exact absurd ha (cross j a hb nj)
      · exact w.dj j k a ha hb
theorem SI.ownL (I : SI K E σ ρ G H b) {i : Nat} {xs : List D} (h : ρ[i]? = some (some (.own xs))) : ∃ (p : Addr) (vs : List V), σ[i]? = some (some (V.ref p)) ∧ E.H p = none ∧ G p = none ∧ H p = some (.lst vs) ∧ RpL K G vs xs ∧ b.at ≠ some p := by
  obtain ⟨fp, w⟩ := I.own
  obtain ⟨v, h1, h2⟩ := w.at_ i _ _ h rfl
  generalize hf : fp i = fq at h2
  cases h2 with
  | @l p vs _ fp' hp r =>
    obtain ⟨k1, k2, k3, k4⟩ := w.ok i p (by rw [hf]; exact List.mem_cons_self)
    exact ⟨p, vs, h1, k1, k2, hp, r.unflat.1, k3⟩
/-- a list of its own becomes another one -/
theorem SI.mut (I : SI K E σ ρ G H b) {i : Nat} {p : Addr} {vs : List V} {xs ys : List D} (hi : ρ[i]? = some (some (.own xs))) (hs : σ[i]? = some (some (.ref p))) (r : RpL K G vs ys) : SI K E σ (ρ.set i (some (.own ys))) G (upd H p (.lst vs)) b := by
  obtain ⟨fp, w⟩ := I.own
  obtain ⟨v, h1, h2⟩ := w.at_ i _ _ hi rfl
  rw [hs] at h1
  cases h1
  have hp : p ∈ fp i := by
    generalize hf : fp i = fq at h2
    cases h2
    exact List.mem_cons_self
  refine I.retree (s' := .own ys) (fq := [p]) hi rfl hs w (.l upd_same (OwL.flat r)) (by simp) (fun a ha => ?_) (fun a hf _ => upd_ne fun z => hf (by rw [z]; exact hp))
  simp at ha
  subst ha
  exact .inl ⟨hp, by rw [upd_same]; exact fun z => nomatch z⟩
def setAll2 (ρ : Env2) : List (Nat × D) → Env2
  | [] => ρ
  | (i, d) :: r => setAll2 (ρ.set i (some (.val d))) r
theorem SI.setAll : ∀ {lv : List (Nat × V)} {l : List (Nat × D)} {σ : L2.St} {ρ : Env2}, RpP K G lv l → SI K E σ ρ G H b → SI K E (setAll σ lv) (setAll2 ρ l) G H b
  | _, _, _, _, .nil, h => h
  | (i, v) :: lv, (j, d) :: l, σ, ρ, .cons ⟨e, r⟩ p, h => by
    have e : i = j := e
    subst e
    exact SI.setAll (lv := lv) (l := l) p (h.set r)
/-- the entry, with what is frozen since -/
theorem SI.up (I : SI K E σ ρ G H b) : SI K ⟨G, E.H, E.b⟩ σ ρ G H b := ⟨I.fz, fun _ _ h => h, fun a o _ h => h, I.keep, I.bag, I.like, I.len, I.val, I.own⟩ 
theorem SI.down {G1 H1 : Hp} {b1 : Bs} {σ1 : L2.St} {ρ1 : Env2} (I : SI K E σ1 ρ1 G1 H1 b1) (J : SI K ⟨G1, E.H, E.b⟩ σ ρ G H b) : SI K E σ ρ G H b :=
  ⟨J.fz, fun a o h => J.g0 a o (I.g0 a o h), fun a o h hn => J.new a o h (I.new a o h hn), J.keep, J.bag, J.like, J.len, J.val, J.own⟩
theorem SI.downN {G1 H1 : Hp} {b1 : Bs} {σ1 : L2.St} {ρ1 : Env2} (I : SI K E σ1 ρ1 G1 H1 b1) (n : Nxt G1 E.H E.b G' H' b') : Nxt E.G E.H E.b G' H' b' :=
  ⟨fun a o h => n.gg a o (I.g0 a o h), n.fz, n.keep, fun a o h hn => n.new a o h (I.new a o h hn), n.bag, n.like⟩
end
/-! ### statements -/
inductive Out where
  | nx (ρ : Env2) | rt (d : D) | rn (xs : List D) | bk (ρ : Env2) | ct (ρ : Env2)
def Fin (K : PySem.W.Frag) (E : En) (Dn : Ends) (b' : Bs) : Out → Prop
  | .nx ρ => ∀ σ' G' H', SI K E σ' ρ G' H' b' → Dn.nx σ' H'
  | .bk ρ => ∀ σ' G' H', SI K E σ' ρ G' H' b' → Dn.bk σ' H'
  | .ct ρ => ∀ σ' G' H', SI K E σ' ρ G' H' b' → Dn.ct σ' H'
  | .rt d => ∀ v G' H', Nxt E.G E.H E.b G' H' b' → Rp K G' v d → Dn.rt v H'
  | .rn xs => ∀ p vs G' H', Nxt E.G E.H E.b G' H' b' → E.H p = none → G' p = none → H' p = some (.lst vs) → RpL K G' vs xs → Dn.rt (.ref p) H'
def tS (K : PySem.W.Frag) (F : Env2 → M Out) : TS := fun Dn σ H => ∃ E ρ G b o b', SI K E σ ρ G H b ∧ F ρ b = some (o, b') ∧ Fin K E Dn b' o
abbrev DS (X : Cx) (st : Stmt) (F : Env2 → M Out) : Prop := PS X st (tS X.K F)
abbrev DSs (X : Cx) (st : List Stmt) (F : Env2 → M Out) : Prop := PSs X st (tS X.K F)
theorem PSimp {X : Cx} {e : Stmt} {t t' : TS} (h : PS X e t) (i : ∀ D σ H, t' D σ H → t D σ H) : PS X e t' := ⟨fun pins s σ H D I q => h.run pins s σ H D I (i D σ H q)⟩
theorem PSsimp {X : Cx} {e : List Stmt} {t t' : TS} (h : PSs X e t) (i : ∀ D σ H, t' D σ H → t D σ H) : PSs X e t' := ⟨fun pins s σ H D I q => h.run pins s σ H D I (i D σ H q)⟩
def seqM (F1 F2 : Env2 → M Out) (ρ : Env2) : M Out := M.bind (F1 ρ) fun o => match o with
  | .nx ρ1 => F2 ρ1
  | o => M.ret o
section
variable {X : Cx} {st : Stmt} {rest : List Stmt} {F F2 : Env2 → M Out} {pos : Pos}
theorem ss_nil : DSs X [] (fun ρ => M.ret (.nx ρ)) := by
  refine PSsimp pss_nil ?_
  rintro D σ H ⟨E, ρ, G, b, o, b', I, e, q⟩
  cases e
  exact q σ G H I
theorem ss_one (h : DS X st F) : DSs X [st] F := pss_one h
theorem ss_cons (h : DS X st F) (h2 : DSs X rest F2) : DSs X (st :: rest) (seqM F F2) := by
  refine PSsimp (pss_cons h h2) ?_
  rintro D σ H ⟨E, ρ, G, b, o, b', I, e, q⟩
  obtain ⟨o1, b1, e1, e2⟩ := M.bind_some e
  refine ⟨E, ρ, G, b, o1, b1, I, e1, ?_⟩
  cases o1 with
  | nx ρ1 => exact fun σ' G' H' I' => ⟨E, ρ1, G', b1, o, b', I', e2, q⟩
  | bk ρ1 => cases e2; exact q
  | ct ρ1 => cases e2; exact q
  | rt d => cases e2; exact q
  | rn xs => cases e2; exact q
theorem s_pass : DS X (.Pass pos) (fun ρ => M.ret (.nx ρ)) := by
  refine PSimp ps_pass ?_
  rintro D σ H ⟨E, ρ, G, b, o, b', I, e, q⟩
  cases e
  exact q σ G H I
theorem s_break : DS X (.Break pos) (fun ρ => M.ret (.bk ρ)) := by
  refine PSimp ps_break ?_
  rintro D σ H ⟨E, ρ, G, b, o, b', I, e, q⟩
  cases e
  exact q σ G H I
theorem s_continue : DS X (.Continue pos) (fun ρ => M.ret (.ct ρ)) := by
  refine PSimp ps_continue ?_
  rintro D σ H ⟨E, ρ, G, b, o, b', I, e, q⟩
  cases e
  exact q σ G H I
def ifM (ms : List Nat) (t : Env → M Bool) (F F2 : Env2 → M Out) (ρ : Env2) : M Out := M.bind (t (view ms ρ)) fun k => if k = true then F ρ else F2 ρ
theorem s_if (ms : List Nat) {c : Expr} {a b : List Stmt} {t : Env → M Bool} (hc : DT X c t) (ha : DSs X a F) (hb : DSs X b F2) : DS X (.If c a b pos) (ifM ms t F F2) := by
  refine PSimp (ps_if hc ha hb) ?_
  rintro D σ H ⟨E, ρ, G, b, o, b', I, e, q⟩
  obtain ⟨k, b1, e1, e2⟩ := M.bind_some e
  refine ⟨_, _, b, k, b1, I.rs ms, I.gp2 ms, I.gpb ms, e1, fun G1 H1 n1 => ?_⟩
  have I1 := I.flat n1
  cases k with
  | true => exact iteT ⟨E, ρ, G, b1, o, b', I1, e2, q⟩
  | false => exact iteF ⟨E, ρ, G, b1, o, b', I1, e2, q⟩
def keepIf (c : Bool) (ms : List Nat) (ρ : Env2) : Env2 := if c = true then ρ else frz ms ρ
theorem SI.after {K : PySem.W.Frag} {E : En} {σ : L2.St} {ρ : Env2} {G H G' H' : Hp} {b b' : Bs} (I : SI K E σ ρ G H b) {ms : List Nat} (n : Nxt (I.gp ms) H b G' H' b') {v : V} {d : D} (r : Rp K G' v d) :
    ∃ G2, SI K E σ (keepIf d.flat ms ρ) G2 H' b' ∧ Rp K G2 v d := by
  unfold keepIf
  cases e : d.flat with
  | true => exact ⟨G, I.flat n, r.flat_any e⟩
  | false => exact ⟨G', I.frz n, r⟩
def setM (i : Nat) (ms : List Nat) (f : Env → M D) (ρ : Env2) : M Out := M.bind (f (view ms ρ)) fun d => M.ret (.nx ((keepIf d.flat ms ρ).set i (some (.val d))))
theorem s_set (i : Nat) (ms : List Nat) {x : Str} {e : Expr} {f : Env → M D} {pos' : Pos} (hN : X.N.Nodup) (hi : X.N[i]? = some x) (hx : Loc X.env.scope x) (he : DE X e f) (hs : swapsWith e (some (.Name x pos')) pos.line X.env = pure false := by rfl)
    (hf : X.fn x = true ∨ X.env.scope.names.lookup x = some .local := by first | exact .inl rfl | exact .inr rfl | assumption) : DS X (.Assign [.Name x pos'] e pos) (setM i ms f) := by
  refine PSimp (ps_set hN hi hx he hs hf) ?_
  rintro D σ H ⟨E, ρ, G, b, o, b', I, e, q⟩
  obtain ⟨d, b1, e1, e2⟩ := M.bind_some e
  cases e2
  refine ⟨_, _, b, d, b', I.rs ms, I.gp2 ms, I.gpb ms, e1, fun v G1 H1 n1 r => ?_⟩
  obtain ⟨G2, I2, r2⟩ := I.after n1 r
  exact q _ G2 H1 (I2.set r2)
theorem SI.fresh {K : PySem.W.Frag} {E : En} {σ : L2.St} {ρ : Env2} {G H : Hp} {b : Bs} (I : SI K E σ ρ G H b) {p : Addr} (hp : H p = none) : E.H p = none := I.nxt.free hp
theorem SI.afterN {K : PySem.W.Frag} {E : En} {σ : L2.St} {ρ : Env2} {G H G' H' : Hp} {b b' : Bs} (I : SI K E σ ρ G H b) {ms : List Nat} (n : Nxt (I.gp ms) H b G' H' b') {vs : List V} {xs : List D} (r : RpL K G' vs xs) {p : Addr} (gn : G' p = none) (hp : H p = none) :
    ∃ G2, SI K E σ (keepIf (xs.all D.flat) ms ρ) G2 H' b' ∧ RpL K G2 vs xs ∧ G2 p = none ∧ ∃ fp, OwnAll K E.H σ (keepIf (xs.all D.flat) ms ρ) G2 H' b' fp ∧ ∀ j a, a ∈ fp j → H a ≠ none := by
  unfold keepIf
  cases e : xs.all D.flat with
  | true => exact ⟨G, I.flat n, r.flat_any e, gnone I.fz hp, I.flatW n⟩
  | false => exact ⟨G', I.frz n, r, gn, I.frzW n⟩
def setNM (i : Nat) (ms : List Nat) (f : Env → M (List D)) (ρ : Env2) : M Out := M.bind (f (view ms ρ)) fun xs => M.ret (.nx ((keepIf (xs.all D.flat) ms ρ).set i (some (.own xs))))
theorem keepIf_own {c : Bool} {ms : List Nat} {ρ : Env2} {j : Nat} {ys : List D} (h : (keepIf c ms ρ)[j]? = some (some (.own ys))) : ρ[j]? = some (some (.own ys)) := by
  unfold keepIf at h
  cases c with
  | true => exact h
  | false =>
    rcases frz_in (show (frz ms ρ)[j]? = _ from h) with ⟨_, s0, _, e⟩ | ⟨_, e⟩
    · cases e
    · exact e
theorem SI.newOwn {K : PySem.W.Frag} {E : En} {σ : L2.St} {ρ : Env2} {G H G' H' : Hp} {b b' : Bs} (I : SI K E σ ρ G H b) {ms : List Nat} (n : Nxt (I.gp ms) H b G' H' b') {vs : List V} {xs : List D} (i : Nat) {p : Addr} (hp : H p = none) (gn : G' p = none) (hh : H' p = some (.lst vs)) (r : RpL K G' vs xs) :
    ∃ G2, SI K E (σ.set i (some (.ref p))) ((keepIf (xs.all D.flat) ms ρ).set i (some (.own xs))) G2 H' b' := by
  obtain ⟨G2, I2, r2, g2, fp, w, fr⟩ := I.afterN n r gn hp
  refine ⟨G2, I2.setTree (s := .own xs) (fq := [p]) rfl (.l hh (OwL.flat r2)) (by simp) (fun a ha => ?_) w fun a ha j hf => ?_⟩
  · simp at ha
    subst ha
    exact ⟨I.fresh hp, g2, by rw [← Bs.like_at n.like]; exact bag_ne I.bag hp, by rw [hh]; exact fun z => nomatch z⟩
  · simp at ha
    subst ha
    exact fr j a hf hp
theorem s_setN (i : Nat) (ms : List Nat) {x : Str} {e : Expr} {f : Env → M (List D)} {pos' : Pos} (hN : X.N.Nodup) (hi : X.N[i]? = some x) (hx : Loc X.env.scope x) (he : DN X e f) (hs : swapsWith e (some (.Name x pos')) pos.line X.env = pure false := by rfl)
    (hf : X.fn x = true ∨ X.env.scope.names.lookup x = some .local := by first | exact .inl rfl | exact .inr rfl | assumption) : DS X (.Assign [.Name x pos'] e pos) (setNM i ms f) := by
  refine PSimp (ps_set hN hi hx he hs hf) ?_
  rintro D σ H ⟨E, ρ, G, b, o, b', I, e, q⟩
  obtain ⟨xs, b1, e1, e2⟩ := M.bind_some e
  cases e2
  refine ⟨_, _, b, xs, b', I.rs ms, I.gp2 ms, I.gpb ms, e1, fun p vs G1 H1 n1 hp gn hh r => ?_⟩
  obtain ⟨G2, I2⟩ := I.newOwn n1 i hp gn hh r
  exact q _ G2 H1 I2
def retM (ms : List Nat) (f : Env → M D) (ρ : Env2) : M Out := M.bind (f (view ms ρ)) fun d => M.ret (.rt d)
theorem s_ret (ms : List Nat) {e : Expr} {f : Env → M D} (he : DE X e f) : DS X (.Return (some e) pos) (retM ms f) := by
  refine PSimp (ps_ret he) ?_
  rintro D σ H ⟨E, ρ, G, b, o, b', I, e, q⟩
  obtain ⟨d, b1, e1, e2⟩ := M.bind_some e
  cases e2
  exact ⟨_, _, b, d, b', I.rs ms, I.gp2 ms, I.gpb ms, e1, fun v G1 H1 n1 r => q v G1 H1 (I.frz n1).nxt r⟩
def retNM (ms : List Nat) (f : Env → M (List D)) (ρ : Env2) : M Out := M.bind (f (view ms ρ)) fun d => M.ret (.rn d)
theorem s_retN (ms : List Nat) {e : Expr} {f : Env → M (List D)} (he : DN X e f) : DS X (.Return (some e) pos) (retNM ms f) := by
  refine PSimp (ps_ret he) ?_
  rintro D σ H ⟨E, ρ, G, b, o, b', I, e, q⟩
  obtain ⟨xs, b1, e1, e2⟩ := M.bind_some e
  cases e2
  exact ⟨_, _, b, xs, b', I.rs ms, I.gp2 ms, I.gpb ms, e1, fun p vs G1 H1 n1 hp gn hh r => q p vs G1 H1 (I.frz n1).nxt (I.fresh hp) gn hh r⟩
def retOwn (i : Nat) (ρ : Env2) : M Out := match ρ[i]? with
  | some (some (.own xs)) => M.ret (.rn xs)
  | some (some (.val d)) => M.ret (.rt d)
  | _ => M.fail
theorem retOwn_some {i : Nat} {ρ : Env2} {b b' : Bs} {o : Out} (h : retOwn i ρ b = some (o, b')) : b = b' ∧ ((∃ xs, ρ[i]? = some (some (.own xs)) ∧ o = .rn xs) ∨ ∃ d, ρ[i]? = some (some (.val d)) ∧ o = .rt d) := by
  unfold retOwn at h
  cases e : ρ[i]? with
  | none => rw [e] at h; cases h
  | some s =>
    cases s with
    | none => rw [e] at h; cases h
    | some s =>
      cases s with
      | tr o => rw [e] at h; cases h
      | own xs => rw [e] at h; cases h; exact ⟨rfl, .inl ⟨xs, rfl, rfl⟩⟩
      | val d => rw [e] at h; cases h; exact ⟨rfl, .inr ⟨d, rfl, rfl⟩⟩
theorem s_retOwn (i : Nat) {x : Str} {p : Pos} (hN : X.N[i]? = some x := by rfl) (hv : Vis X.env.scope x := by first | exact Or.inl rfl | exact Or.inr (Or.inl rfl) | exact Or.inr (Or.inr rfl)) (hd : (x == ("__debug__" : Str)) = false := by decide)
    (hcd : (x == ("__classdict__" : Str)) = false := by decide) : DS X (.Return (some (.Name x p)) pos) (retOwn i) := by
  refine PSimp (ps_ret (pe_var hN hv hd hcd)) ?_
  rintro D σ H ⟨E, ρ, G, b, o, b', I, e, q⟩
  obtain ⟨rfl, h⟩ := retOwn_some e
  rcases h with ⟨xs, h, rfl⟩ | ⟨d, h, rfl⟩
  · obtain ⟨p, vs, h1, h2, h3, h4, h5, h6⟩ := I.ownL h
    exact ⟨_, h1, q p vs G H I.nxt h2 h3 h4 h5⟩
  · obtain ⟨v, h1, h2⟩ := I.val i d h
    exact ⟨_, h1, q v G H I.nxt h2⟩
theorem s_retNone : DS X (.Return none pos) (fun _ => M.ret (.rt .non)) := by
  refine PSimp ps_retN ?_
  rintro D σ H ⟨E, ρ, G, b, o, b', I, e, q⟩
  cases e
  exact q _ G H I.nxt .non
def dropM (ms : List Nat) (f : Env → M D) (ρ : Env2) : M Out := M.bind (f (view ms ρ)) fun _ => M.ret (.nx ρ)
theorem s_expr (ms : List Nat) {e : Expr} {f : Env → M D} (he : DE X e f) (hs : swapsWith e none pos.line X.env = pure false := by rfl) : DS X (.Expr e pos) (dropM ms f) := by
  refine PSimp (ps_expr he hs) ?_
  rintro D σ H ⟨E, ρ, G, b, o, b', I, e, q⟩
  obtain ⟨d, b1, e1, e2⟩ := M.bind_some e
  cases e2
  exact ⟨_, _, b, d, b', I.rs ms, I.gp2 ms, I.gpb ms, e1, fun v G1 H1 n1 r => q _ G H1 (I.flat n1)⟩
def appM (j : Nat) (ms : List Nat) (f : Env → M D) (ρ : Env2) : M Out := M.bind (f (view ms ρ)) fun d => match (keepIf d.flat ms ρ)[j]? with
  | some (some (.own xs)) => M.guard (decide (xs.length < sizeLine)) (M.ret (.nx ((keepIf d.flat ms ρ).set j (some (.own (xs ++ [d]))))))
  | _ => M.fail
theorem s_append (j : Nat) (ms : List Nat) {x : Str} {e : Expr} {f : Env → M D} {p apos cpos : Pos} (he : DE X e f) (hN : X.N[j]? = some x := by rfl) (hv : Vis X.env.scope x := by first | exact Or.inl rfl | exact Or.inr (Or.inl rfl) | exact Or.inr (Or.inr rfl))
    (hd : (x == ("__debug__" : Str)) = false := by decide) (hcd : (x == ("__classdict__" : Str)) = false := by decide) (hst : starEach [e] X.env = (false, eval e X.env) :: starEach [] X.env := by rfl)
    (hbase : attributeBase (.Name x p) "append" X.env (eval (.Name x p) X.env) = eval (.Name x p) X.env := by rfl)
    (hfew : ((backTo cpos (starEach [e] X.env)).all (fun x => !x.1) && (backToKw cpos (keywordEach [] X.env)).all (fun x => x.1.isSome) && decide (([e].length + ([] : List Keyword).length + if ([] : List Keyword).isEmpty = true then 0 else 1) < 30)) = true := by rfl)
    (hline : (apos.endLine == cpos.line) = true := by rfl) (hs : swapsWith (.Call (.Attribute (.Name x p) "append" apos) [e] [] cpos) none pos.line X.env = pure false := by rfl) :
    DS X (.Expr (.Call (.Attribute (.Name x p) "append" apos) [e] [] cpos) pos) (appM j ms f) := by
  refine PSimp (ps_expr (pe_bm PySem.F.plainAttrs_list PySem.F.slot_list_append PySem.F.type_list_append mt_append (pe_var hN hv hd hcd) (pa_cons he pa_nil hst) hbase hfew hline hst) hs) ?_
  rintro D σ H ⟨E, ρ, G, b, o, b', I, e, q⟩
  obtain ⟨d, b1, e1, e2⟩ := M.bind_some e
  cases ej : (keepIf d.flat ms ρ)[j]? with
  | none => rw [ej] at e2; cases e2
  | some s =>
    cases s with
    | none => rw [ej] at e2; cases e2
    | some s =>
      cases s with
      | val d => rw [ej] at e2; cases e2
      | tr o => rw [ej] at e2; cases e2
      | own xs =>
        rw [ej] at e2
        obtain ⟨hz, e3⟩ := M.guard_some e2
        cases e3
        obtain ⟨p, vs, h1, h2, h3, h4, h5, h6⟩ := I.ownL (keepIf_own ej)
        refine ⟨_, h1, Or.inl ⟨rfl, vs, SqL.of h4⟩, ?_⟩
        refine ⟨_, _, b, d, b', I.rs ms, I.gp2 ms, I.gpb ms, e1, fun v G1 H1 n1 r => ?_⟩
        obtain ⟨G2, I2, r2⟩ := I.after n1 r
        obtain ⟨p', vs', f1, f2, f3, f4, f5, f6⟩ := I2.ownL ej
        rw [h1] at f1
        cases f1
        refine ⟨p, vs', v, rfl, rfl, f4, by rw [f5.length]; exact of_decide_eq_true hz, ?_⟩
        exact q σ G2 _ (I2.mut ej h1 (f5.append (.cons r2 .nil)))
def loopM (bs : D → Option (List (Nat × D))) (body : Env2 → M Out) : List D → Env2 → M Out
  | [], ρ => M.ret (.nx ρ)
  | x :: xs, ρ => match bs x with
    | none => M.fail
    | some l => M.bind (body (setAll2 ρ l)) fun o => match o with
      | .nx ρ' => loopM bs body xs ρ'
      | .ct ρ' => loopM bs body xs ρ'
      | .bk ρ' => M.ret (.nx ρ')
      | .rt d => M.ret (.rt d)
      | .rn ys => M.ret (.rn ys)
theorem Fin.up {K : PySem.W.Frag} {E : En} {σ1 : L2.St} {ρ1 : Env2} {G1 H1 : Hp} {b1 : Bs} {D : Ends} {b' : Bs} {o : Out} (I : SI K E σ1 ρ1 G1 H1 b1) (q : Fin K E D b' o) : Fin K ⟨G1, E.H, E.b⟩ D b' o := by
  cases o with
  | nx ρ => exact fun σ' G' H' J => q σ' G' H' (I.down J)
  | bk ρ => exact fun σ' G' H' J => q σ' G' H' (I.down J)
  | ct ρ => exact fun σ' G' H' J => q σ' G' H' (I.down J)
  | rt d => exact fun v G' H' n r => q v G' H' (I.downN n) r
  | rn xs => exact fun p vs G' H' n => q p vs G' H' (I.downN n)
theorem loop_f {K : PySem.W.Frag} {J : It} {g : TG} {bs : D → Option (List (Nat × D))} {is : List Nat} {body : Env2 → M Out} (tg : TgOk K g bs is) {E : En} {xs : List D} {G1 : Hp} (hG : Same G1 E.G) (yl : Yl K G1 J xs) {D : Ends} {σ : L2.St} {ρ : Env2} {G H : Hp} {b b' : Bs} {o : Out}
    (I : SI K E σ ρ G H b) (e : loopM bs body xs ρ b = some (o, b')) (q : Fin K E D b' o) :
    ∃ W : Nat → Nat → L2.St → Hp → Prop, (∃ m, W 0 m σ H) ∧ ∀ i m σ H, W i m σ H →
      (J.stop i H ∧ D.nx σ H) ∨ (J.go i H ∧ ∃ N : L2.St → Hp → Prop, (∀ σ' H', N σ' H' → ∃ m', m' < m ∧ W (i + 1) m' σ' H') ∧ ∀ x H', J.yld i H x H' → g x σ H' fun σ2 H2 => tS K body { D with nx := N, ct := N, bk := D.nx } σ2 H2) := by
  refine ⟨fun i m σ H => m = xs.length - i ∧ i ≤ xs.length ∧ ∃ ρ G b, SI K E σ ρ G H b ∧ loopM bs body (xs.drop i) ρ b = some (o, b'), ⟨xs.length, by simp, Nat.zero_le _, ρ, G, b, I, by simpa using e⟩, ?_⟩
  rintro i m σ2 H2 ⟨rfl, hi, ρ2, G2, b2, I2, e2⟩
  have Y := yl i G2 H2 b2 (fun a o h => I2.g0 a o (hG a o h)) I2.fz I2.bag
  by_cases hlt : i < xs.length
  · have hx : xs[i]? = some xs[i] := List.getElem?_eq_getElem hlt
    have hdr : xs.drop i = xs[i] :: xs.drop (i + 1) := List.drop_eq_getElem_cons hlt
    obtain ⟨hgo, hy⟩ := Y.1 _ hx
    refine .inr ⟨hgo, fun σ3 H3 => ∃ ρ G b, SI K E σ3 ρ G H3 b ∧ loopM bs body (xs.drop (i + 1)) ρ b = some (o, b'), fun σ' H' h' => ⟨xs.length - (i + 1), by omega, rfl, hlt, h'⟩, fun x H3 hyl => ?_⟩
    obtain ⟨G3, n3, rx⟩ := hy x H3 hyl
    rw [hdr] at e2
    unfold loopM at e2
    cases eb : bs xs[i] with
    | none => rw [eb] at e2; cases e2
    | some l =>
      rw [eb] at e2
      obtain ⟨lv, pl, il, gq⟩ := tg G3 x xs[i] l rx eb
      refine gq H3 _ _ n3.fz ?_
      obtain ⟨o1, b3, e3, e4⟩ := M.bind_some e2
      refine ⟨E, _, G3, b2, o1, b3, SI.setAll pl (I2.step n3), e3, ?_⟩
      cases o1 with
      | nx ρ' => exact fun σ' G' H' I' => ⟨ρ', G', b3, I', e4⟩
      | ct ρ' => exact fun σ' G' H' I' => ⟨ρ', G', b3, I', e4⟩
      | bk ρ' => cases e4; exact q
      | rt d => cases e4; exact q
      | rn ys => cases e4; exact q
  · have ee : i = xs.length := by omega
    subst ee
    refine .inl ⟨Y.2 (Nat.le_refl _), ?_⟩
    have hr : xs.drop xs.length = [] := by simp
    rw [hr] at e2
    cases e2
    exact q σ2 G2 H2 I2
def forA (ms : List Nat) (gi : Env → M (List D)) (bs : D → Option (List (Nat × D))) (body : Env2 → M Out) (ρ : Env2) : M Out := M.bind (gi (view ms ρ)) fun xs => loopM bs body xs (frz ms ρ)
def forRM (ms : List Nat) (gi : Env → M (List D)) (bs : D → Option (List (Nat × D))) (body : Env2 → M Out) (ρ : Env2) : M Out := M.bind (gi (view ms ρ)) fun xs => loopM bs body xs ρ
theorem s_for (ms : List Nat) {tg iter : Expr} {body : List Stmt} {gi : Env → M (List D)} {g : TG} {bs : D → Option (List (Nat × D))} {is : List Nat} {Fb : Env2 → M Out} (hp : PassesOwn (model X.prog X.w) X.A X.env X.xe) (hc : X.calm = true) (hi : DI X tg iter gi) (hg : PG X tg g) (ht : TgOk X.K g bs is) (hb : DSs X body Fb)
    (hs : ∀ x, foldedSetIterable iter X.env x = pure x := by intro _; rfl) : DS X (.For tg iter body [] pos) (forA ms gi bs Fb) := by
  refine PSimp (ps_for hp hc hi hg hb hs) ?_
  rintro D σ H ⟨E, ρ, G, b, o, b', I, e, q⟩
  obtain ⟨xs, b1, e1, e2⟩ := M.bind_some e
  refine ⟨_, _, b, xs, b1, I.rs ms, I.gp2 ms, I.gpb ms, e1, fun J G1 H1 n1 yl => ?_⟩
  have I1 := I.frz n1
  exact loop_f (E := ⟨G1, E.H, E.b⟩) ht (fun _ _ h => h) yl I1.up e2 (q.up I1)
theorem s_forR (ms : List Nat) {tg iter : Expr} {body : List Stmt} {gi : Env → M (List D)} {g : TG} {bs : D → Option (List (Nat × D))} {is : List Nat} {Fb : Env2 → M Out} (hp : PassesOwn (model X.prog X.w) X.A X.env X.xe) (hc : X.calm = true) (hi : DR X tg iter gi) (hg : PG X tg g) (ht : TgOk X.K g bs is) (hb : DSs X body Fb)
    (hs : ∀ x, foldedSetIterable iter X.env x = pure x := by intro _; rfl) : DS X (.For tg iter body [] pos) (forRM ms gi bs Fb) := by
  refine PSimp (ps_for hp hc hi hg hb hs) ?_
  rintro D σ H ⟨E, ρ, G, b, o, b', I, e, q⟩
  obtain ⟨xs, b1, e1, e2⟩ := M.bind_some e
  refine ⟨_, _, b, xs, b1, I.rs ms, I.gp2 ms, I.gpb ms, e1, fun J G1 H1 n1 yl => ?_⟩
  exact loop_f ht (fun _ _ h => by cases h) yl (I.flat n1) e2 q
def whileM (ms : List Nat) (t : Env → M Bool) (body : Env2 → M Out) : Nat → Env2 → M Out
  | 0, _ => M.fail
  | n + 1, ρ => M.bind (t (view ms ρ)) fun k => if k = true then M.bind (body ρ) fun o => match o with
      | .nx ρ' => whileM ms t body n ρ'
      | .ct ρ' => whileM ms t body n ρ'
      | .bk ρ' => M.ret (.nx ρ')
      | .rt d => M.ret (.rt d)
      | .rn ys => M.ret (.rn ys)
    else M.ret (.nx ρ)
theorem s_while (fuel : Nat) (ms : List Nat) {c : Expr} {body : List Stmt} {t : Env → M Bool} {Fb : Env2 → M Out} (hp : PassesOwn (model X.prog X.w) X.A X.env X.xe) (hc : DT X c t) (hb : DSs X body Fb) : DS X (.While c body [] pos) (whileM ms t Fb fuel) := by
  refine PSimp (ps_while hp hc hb) ?_
  rintro D σ H ⟨E, ρ, G, b, o, b', I, e, q⟩
  refine ⟨fun m σ H => ∃ ρ G b, SI X.K E σ ρ G H b ∧ whileM ms t Fb m ρ b = some (o, b'), ⟨fuel, ρ, G, b, I, e⟩, ?_⟩
  rintro m σ2 H2 ⟨ρ2, G2, b2, I2, e2⟩
  cases m with
  | zero => cases e2
  | succ m =>
    unfold whileM at e2
    obtain ⟨k, b1, e1, e3⟩ := M.bind_some e2
    refine ⟨_, _, b2, k, b1, I2.rs ms, I2.gp2 ms, I2.gpb ms, e1, fun G1 H1 n1 => ?_⟩
    have I1 := I2.flat n1
    cases k with
    | false => cases e3; exact iteF (q σ2 _ _ I1)
    | true =>
      refine iteT ?_
      obtain ⟨o1, b3, e4, e5⟩ := M.bind_some e3
      refine ⟨fun σ3 H3 => ∃ ρ G b, SI X.K E σ3 ρ G H3 b ∧ whileM ms t Fb m ρ b = some (o, b'), fun σ' H' h' => ⟨m, Nat.lt_succ_self _, h'⟩, E, ρ2, G2, b1, o1, b3, I1, e4, ?_⟩
      cases o1 with
      | nx ρ' => exact fun σ' G' H' I' => ⟨ρ', G', b3, I', e5⟩
      | ct ρ' => exact fun σ' G' H' I' => ⟨ρ', G', b3, I', e5⟩
      | bk ρ' => cases e5; exact q
      | rt d => cases e5; exact q
      | rn ys => cases e5; exact q
end
end DL
set_option Elab.async false
set_option maxRecDepth 100000
set_option autoImplicit false
set_option linter.unusedVariables false
set_option maxHeartbeats 4000000
namespace DL
open PySem L2
/-! ### the table of operations -/
theorem q_newL {K : PySem.W.Frag} {G H : Hp} {b : Bs} {Q : VK} {vs : List V} {ds : List D} {p : Addr} (fz : Same G H) (ob : BagOk G H b) (hp : H p = none) (r : RpL K G vs ds) (q : ∀ v G' H', Nxt G H b G' H' b → Rp K G' v (.lst ds) → Q v H') : Q (.ref p) (upd H p (.lst vs)) := by
  have m := Nxt.newF (o := .lst vs) fz ob hp
  exact q _ _ _ m (.lst upd_same (r.mono m.gg))
theorem q_newT {K : PySem.W.Frag} {G H : Hp} {b : Bs} {Q : VK} {vs : List V} {ds : List D} {p : Addr} (fz : Same G H) (ob : BagOk G H b) (hp : H p = none) (r : RpL K G vs ds) (q : ∀ v G' H', Nxt G H b G' H' b → Rp K G' v (.tup ds) → Q v H') : Q (.ref p) (upd H p (.tup vs)) := by
  have m := Nxt.newF (o := .tup vs) fz ob hp
  exact q _ _ _ m (.tup (SqT.of upd_same) (r.mono m.gg))
theorem szStr (x : List Nat) : (⟨x.toArray⟩ : Str).length = x.length := by simp [Str.length]
def szS (n : Nat) : Bool := decide (n ≤ sizeLine)
section
variable {X : Cx} {a b : Expr} {f g : Env → M D} {pos : Pos}
/-! subscripts -/
def bagIx (p : Addr) (i : Int) : M D := fun b => match b with
  | some g => if g.p = p then (atI [D.int g.z0, D.int g.z1, D.int g.z2, D.lst (g.cs.map D.int)] i).map fun d => (d, b) else none
  | none => none
def ixD : D → D → M D
  | .lst xs, .int i => M.of (atI xs i)
  | .tup xs, .int i => M.of (atI xs i)
  | .str x, .int i => M.guard (szS x.length) (M.of ((atI x i).map fun c => .str [c]))
  | .bag p, .int i => bagIx p i
  | _, _ => M.fail
theorem RpL.ints {K : PySem.W.Frag} {G : Hp} : ∀ ns : List Int, RpL K G (ns.map V.int) (ns.map D.int)
  | [] => .nil
  | n :: ns => .cons (.int n) (RpL.ints ns)
theorem RpL.atI {K : PySem.W.Frag} {G : Hp} {vs : List V} {ds : List D} {i : Int} {d : D} (r : RpL K G vs ds) (h : atI ds i = some d) : ∃ v, L2.atI vs i = some v ∧ Rp K G v d := by
  unfold L2.atI at h ⊢
  rw [r.length]
  cases e : ixN ds.length i with
  | none => rw [e] at h; cases h
  | some j =>
    rw [e] at h
    exact r.get h
theorem M.of_some' {α : Type} {o : Option α} {b b' : Bs} {a : α} (h : M.of o b = some (a, b')) : o = some a ∧ b = b' := by
  cases o with
  | none => cases h
  | some x => cases h; exact ⟨rfl, rfl⟩
theorem snd_ix : SndR X.K (rIx X.K) ixD := by
  intro G H b x y dx dy d b' Q rx ry fz ob e q
  cases ry with
  | int i =>
    cases rx with
    | lst h r =>
      obtain ⟨e1, rfl⟩ := M.of_some' e
      obtain ⟨v, h1, h2⟩ := r.atI e1
      exact .inl ⟨_, _, i, v, rfl, rfl, SqL.of (fz _ _ h), h1, q v G H (Nxt.refl fz ob) h2⟩
    | tup h r =>
      obtain ⟨e1, rfl⟩ := M.of_some' e
      obtain ⟨v, h1, h2⟩ := r.atI e1
      exact .inr (.inl ⟨_, _, i, v, rfl, rfl, Same.sqt fz h, h1, q v G H (Nxt.refl fz ob) h2⟩)
    | str x =>
      obtain ⟨c, e⟩ := M.guard_some e
      obtain ⟨e1, rfl⟩ := M.of_some' e
      cases e2 : atI x i with
      | none => rw [e2] at e1; cases e1
      | some c0 =>
        rw [e2] at e1
        cases e1
        refine .inr (.inr ⟨_, i, c0, rfl, rfl, ?_, ?_, q _ G H (Nxt.refl fz ob) (.str [c0])⟩)
        · rw [szStr]; exact of_decide_eq_true c
        · simpa using e2
    | bag p =>
      cases b with
      | none => cases e
      | some g =>
        have e' : (if g.p = p then (atI [D.int g.z0, D.int g.z1, D.int g.z2, D.lst (g.cs.map D.int)] i).map fun d => (d, (some g : Bs)) else none) = some (d, b') := e
        by_cases hp : g.p = p
        · rw [if_pos hp] at e'
          cases e2 : atI [D.int g.z0, D.int g.z1, D.int g.z2, D.lst (g.cs.map D.int)] i with
          | none => rw [e2] at e'; cases e'
          | some d0 =>
            rw [e2] at e'
            cases e'
            obtain ⟨o1, o2, o3⟩ := id ob
            have r : RpL X.K G [.int g.z0, .int g.z1, .int g.z2, .ref g.q] [D.int g.z0, D.int g.z1, D.int g.z2, D.lst (g.cs.map D.int)] := .cons (.int _) (.cons (.int _) (.cons (.int _) (.cons (.lst o3 (RpL.ints _)) .nil)))
            obtain ⟨v, h1, h2⟩ := r.atI e2
            exact .inl ⟨p, _, i, v, rfl, rfl, SqL.of (by rw [← hp]; exact o2), h1, q v G H (Nxt.refl fz ob) h2⟩
        · rw [if_neg hp] at e'; cases e'
    | _ => cases e
  | _ => cases rx <;> cases e
theorem d_ix (ha : DE X a f) (hb : DE X b g) (hp : PlainIx b := by exact fun _ _ => rfl) : DE X (.Subscript a b pos) (fun ρ => M.bind (f ρ) fun x => M.bind (g ρ) fun y => ixD x y) := d_ix0 ix_seq snd_ix ha hb hp
/-! + - * // % -/
def addD : D → D → M D
  | .int i, .int j => M.ret (.int (i + j))
  | .str x, .str y => M.guard (szS (x.length + y.length)) (M.ret (.str (x ++ y)))
  | .lst x, .lst y => M.guard (szS (x.length + y.length)) (M.ret (.lst (x ++ y)))
  | .tup x, .tup y => M.guard (szS (x.length + y.length) && !x.isEmpty && !y.isEmpty) (M.ret (.tup (x ++ y)))
  | _, _ => M.fail
theorem snd_add : SndR X.K (fun x y H Q => (rI0 (fun i j => .int (i + j)) x y H Q ∨ (∃ i j, x = .str i ∧ y = .str j ∧ i.length + j.length ≤ sizeLine ∧ Q (.str (i ++ j)) H)) ∨ (rCat x y H Q ∨ rCatT X.K x y H Q)) addD := by
  intro G H b x y dx dy d b' Q rx ry fz ob e q
  cases rx with
  | int i =>
    cases ry with
    | int j => cases e; exact .inl (.inl ⟨i, j, rfl, rfl, q _ G H (Nxt.refl fz ob) (.int _)⟩)
    | _ => cases e
  | str x =>
    cases ry with
    | str y =>
      obtain ⟨c, e⟩ := M.guard_some e
      cases e
      refine .inl (.inr ⟨_, _, rfl, rfl, by rw [szStr, szStr]; exact of_decide_eq_true c, ?_⟩)
      have h := q (.str ⟨(x ++ y).toArray⟩) G H (Nxt.refl fz ob) (.str (x ++ y))
      have e2 : ((⟨x.toArray⟩ : Str) ++ (⟨y.toArray⟩ : Str)) = ⟨(x ++ y).toArray⟩ := by
        show (⟨x.toArray ++ y.toArray⟩ : Str) = _
        simp
      rw [e2]; exact h
    | _ => cases e
  | lst hx r1 =>
    cases ry with
    | lst hy r2 =>
      obtain ⟨c, e⟩ := M.guard_some e
      cases e
      refine .inr (.inl ⟨_, _, _, _, rfl, rfl, fz _ _ hx, fz _ _ hy, by rw [r1.length, r2.length]; exact of_decide_eq_true c, fun p hp => q_newL fz ob hp (r1.append r2) q⟩)
    | _ => cases e
  | tup hx r1 =>
    cases ry with
    | tup hy r2 =>
      obtain ⟨c, e⟩ := M.guard_some e
      cases e
      simp only [Bool.and_eq_true, Bool.not_eq_true'] at c
      have n1 : ∀ {vs : List V} {ds : List D}, RpL X.K G vs ds → ds.isEmpty = false → vs ≠ [] := fun r h z => by
        have := r.empty
        rw [z, h] at this; cases this
      refine .inr (.inr ⟨_, _, _, _, rfl, rfl, Same.sqt fz hx, Same.sqt fz hy, n1 r1 c.1.2, by rw [r1.length, r2.length]; exact of_decide_eq_true c.1.1, fun z => absurd z (n1 r2 c.2), fun _ p hp => q_newT fz ob hp (r1.append r2) q⟩)
    | _ => cases e
  | _ => cases ry <;> cases e
theorem d_add (ha : DE X a f) (hb : DE X b g) : DE X (.BinOp a .Add b pos) (fun ρ => M.bind (f ρ) fun x => M.bind (g ρ) fun y => addD x y) :=
  d_op ((op_add.or op_add_str).or (op_cat.or op_catT)) snd_add ha hb
def i2 (h : Int → Int → Option Int) : D → D → M D
  | .int i, .int j => M.of ((h i j).map D.int)
  | _, _ => M.fail
theorem snd_i2 {K : PySem.W.Frag} {C : Int → Int → Prop} {k : Int → Int → Int} {h : Int → Int → Option Int} (hh : ∀ i j z, h i j = some z → C i j ∧ k i j = z) : SndR K (rI C fun i j => .int (k i j)) (i2 h) := by
  intro G H b x y dx dy d b' Q rx ry fz ob e q
  cases rx with
  | int i =>
    cases ry with
    | int j =>
      obtain ⟨e1, rfl⟩ := M.of_some' e
      cases e2 : h i j with
      | none => rw [e2] at e1; cases e1
      | some z =>
        rw [e2] at e1
        cases e1
        obtain ⟨c, rfl⟩ := hh i j z e2
        exact ⟨i, j, rfl, rfl, c, q _ G H (Nxt.refl fz ob) (.int _)⟩
    | _ => cases e
  | _ => cases ry <;> cases e
theorem snd_i0 {K : PySem.W.Frag} {k : Int → Int → Int} {h : Int → Int → Option Int} (hh : ∀ i j z, h i j = some z → k i j = z) : SndR K (rI0 fun i j => .int (k i j)) (i2 h) := by
  intro G H b x y dx dy d b' Q rx ry fz ob e q
  cases rx with
  | int i =>
    cases ry with
    | int j =>
      obtain ⟨e1, rfl⟩ := M.of_some' e
      cases e2 : h i j with
      | none => rw [e2] at e1; cases e1
      | some z =>
        rw [e2] at e1
        cases e1
        cases hh i j z e2
        exact ⟨i, j, rfl, rfl, q _ G H (Nxt.refl fz ob) (.int _)⟩
    | _ => cases e
  | _ => cases ry <;> cases e
def subD : D → D → M D := i2 fun i j => some (i - j)
theorem d_sub (ha : DE X a f) (hb : DE X b g) : DE X (.BinOp a .Sub b pos) (fun ρ => M.bind (f ρ) fun x => M.bind (g ρ) fun y => subD x y) :=
  d_op op_sub (snd_i0 fun i j z e => Option.some.inj e) ha hb
def modD : D → D → M D := i2 fun i j => if 0 < j then some (i % j) else none
theorem d_mod (ha : DE X a f) (hb : DE X b g) : DE X (.BinOp a .Mod b pos) (fun ρ => M.bind (f ρ) fun x => M.bind (g ρ) fun y => modD x y) :=
  d_op op_mod (snd_i2 fun i j z e => by
    by_cases h : 0 < j
    · rw [if_pos h] at e; exact ⟨h, Option.some.inj e⟩
    · rw [if_neg h] at e; cases e) ha hb
def divD : D → D → M D := i2 fun i j => if 0 < j ∧ j < 1073741824 then some (i / j) else none
theorem d_div (ha : DE X a f) (hb : DE X b g) : DE X (.BinOp a .FloorDiv b pos) (fun ρ => M.bind (f ρ) fun x => M.bind (g ρ) fun y => divD x y) :=
  d_op op_fdiv (snd_i2 fun i j z e => by
    by_cases h : 0 < j ∧ j < 1073741824
    · rw [if_pos h] at e; exact ⟨h, Option.some.inj e⟩
    · rw [if_neg h] at e; cases e) ha hb
def okM (i j : Int) : Bool := (decide (-(2 ^ 64) < i) && decide (i < 2 ^ 64)) || (decide (-(2 ^ 64) < j) && decide (j < 2 ^ 64))
theorem okM_c {i j : Int} (h : okM i j = true) : CMul i j := by
  unfold okM at h
  simp only [Bool.or_eq_true, Bool.and_eq_true, decide_eq_true_eq] at h
  exact h
def repL {α : Type} (x : List α) (n : Nat) : List α := (List.replicate n x).flatten
def okRep (x : Nat) (k : Int) : Bool := decide (-(2 ^ 63) ≤ k) && decide (k < 2 ^ 63) && decide (x * k.toNat ≤ sizeLine)
def mulD : D → D → M D
  | .int i, .int j => M.guard (okM i j) (M.ret (.int (i * j)))
  | .str x, .int k => M.guard (okRep x.length k) (M.ret (.str (repL x k.toNat)))
  | .lst x, .int k => M.guard (okRep x.length k) (M.ret (.lst (repL x k.toNat)))
  | _, _ => M.fail
theorem fold_app (x : List Nat) : ∀ (n : Nat) (acc : List Nat), (List.replicate n x.toArray).foldl (· ++ ·) acc.toArray = (acc ++ repL x n).toArray
  | 0, acc => by simp [repL]
  | n + 1, acc => by
    rw [List.replicate_succ, List.foldl_cons]
    have : acc.toArray ++ x.toArray = (acc ++ x).toArray := by simp
    rw [this, fold_app x n (acc ++ x)]
    simp [repL, List.replicate_succ]
theorem repL_one {α : Type} (x : List α) : repL x 1 = x := by simp [repL]
theorem txt_mul (x : List Nat) (k : Int) : Txt.mul ⟨x.toArray⟩ k = ⟨(repL x k.toNat).toArray⟩ := by
  unfold Txt.mul
  by_cases h1 : k < 1
  · rw [if_pos h1]
    have : k.toNat = 0 := by omega
    rw [this]; simp [repL, Str.empty]
  · rw [if_neg h1]
    by_cases h2 : (k == 1 || (⟨x.toArray⟩ : Str).length == 0) = true
    · rw [if_pos h2]
      rw [Bool.or_eq_true] at h2
      rcases h2 with h | h
      · have : k = 1 := by simpa using h
        subst this
        show _ = (⟨(repL x 1).toArray⟩ : Str)
        rw [repL_one]
      · have : x = [] := by
          have h' : (⟨x.toArray⟩ : Str).length = 0 := by simpa using h
          rw [szStr] at h'
          exact List.eq_nil_of_length_eq_zero h'
        subst this
        simp [repL]
    · rw [if_neg h2]
      have := fold_app x k.toNat []
      simp only [List.nil_append] at this
      show (⟨List.foldl (· ++ ·) #[] (List.replicate k.toNat x.toArray)⟩ : Str) = _
      rw [← this]
theorem op_mul_str : OpR X (binaryOp .Mult) (fun x y H Q => ∃ (z : List Nat) (k : Int), x = .str ⟨z.toArray⟩ ∧ y = .int k ∧ okRep z.length k = true ∧ Q (.str ⟨(repL z k.toNat).toArray⟩) H) := by
  intro pins s σ H x y v u Q I rx ry h
  obtain ⟨z, k, rfl, rfl, c, q⟩ := h
  obtain ⟨t, rfl⟩ := rx
  obtain ⟨t', rfl⟩ := ry
  unfold okRep at c
  simp only [Bool.and_eq_true, decide_eq_true_eq] at c
  obtain ⟨⟨c1, c2⟩, c3⟩ := c
  have hs : (sizeLine : Nat) = 16777216 := by decide
  refine PySem.SB.mul ⟨?_, fun h1 h2 => ?_, fun h1 h2 => ?_⟩ fun t' k' => ⟨.str ⟨(repL z k.toNat).toArray⟩, H, I.tok _, ⟨t', by rw [txt_mul]⟩, q⟩
  · rw [decide_eq_false (by omega), decide_eq_false (by omega)]; rfl
  · rw [szStr]
    intro h3
    have hk : 1 ≤ k := by omega
    have e1 : (z.length : Int) * k ≤ sizeLine := by
      have e0 : k = (k.toNat : Int) := by omega
      rw [e0, ← Int.natCast_mul]
      exact Int.ofNat_le.mpr c3
    have h4 : (2 ^ 63 - 1) < ((z.length : Int)) * k := by
      have := Int.lt_mul_of_ediv_lt (by omega : 0 < k) h3
      exact this
    rw [hs] at e1
    have : ((16777216 : Nat) : Int) < 2 ^ 63 - 1 := by decide
    omega
  · rw [szStr]
    unfold Builtin.Str.tooLong
    rw [hs] at c3
    simp
    omega
theorem RpL.flat {K : PySem.W.Frag} {G : Hp} {vs : List V} {ds : List D} (r : RpL K G vs ds) : ∀ n : Nat, RpL K G (repL vs n) (repL ds n)
  | 0 => .nil
  | n + 1 => by
    unfold repL
    rw [List.replicate_succ, List.replicate_succ, List.flatten_cons, List.flatten_cons]
    exact r.append (RpL.flat r n)
theorem snd_mul : SndR X.K (fun x y H Q => (rI CMul (fun i j => .int (i * j)) x y H Q ∨ (∃ (z : List Nat) (k : Int), x = .str ⟨z.toArray⟩ ∧ y = .int k ∧ okRep z.length k = true ∧ Q (.str ⟨(repL z k.toNat).toArray⟩) H)) ∨ rRep x y H Q) mulD := by
  intro G H b x y dx dy d b' Q rx ry fz ob e q
  cases ry with
  | int j =>
    cases rx with
    | int i =>
      obtain ⟨c, e⟩ := M.guard_some e
      cases e
      exact .inl (.inl ⟨i, j, rfl, rfl, okM_c c, q _ G H (Nxt.refl fz ob) (.int _)⟩)
    | str x =>
      obtain ⟨c, e⟩ := M.guard_some e
      cases e
      exact .inl (.inr ⟨x, j, rfl, rfl, c, q _ G H (Nxt.refl fz ob) (.str _)⟩)
    | lst hx r =>
      obtain ⟨c, e⟩ := M.guard_some e
      cases e
      unfold okRep at c
      simp only [Bool.and_eq_true, decide_eq_true_eq] at c
      refine .inr ⟨_, j, _, rfl, rfl, fz _ _ hx, c.1.1, c.1.2, by rw [r.length]; exact c.2, fun p hp => q_newL fz ob hp (r.flat _) q⟩
    | _ => cases e
  | _ => cases rx <;> cases e
theorem d_mul (ha : DE X a f) (hb : DE X b g) : DE X (.BinOp a .Mult b pos) (fun ρ => M.bind (f ρ) fun x => M.bind (g ρ) fun y => mulD x y) :=
  d_op ((op_mul.or op_mul_str).or op_rep) snd_mul ha hb
def negD : D → M D
  | .int i => M.ret (.int (-i))
  | _ => M.fail
theorem d_neg (ha : DE X a f) : DE X (.UnaryOp .USub a pos) (fun ρ => M.bind (f ρ) negD) := by
  refine PEimp (pe_un un_neg ha) ?_
  rintro σ H Q ⟨ρ, G, b, d, b', rs, fz, ob, e, q⟩
  obtain ⟨x, b1, e1, e2⟩ := M.bind_some e
  refine ⟨ρ, G, b, x, b1, rs, fz, ob, e1, fun v G1 H1 n1 r => ?_⟩
  cases r with
  | int i => cases e2; exact ⟨i, rfl, q _ _ _ n1 (.int _)⟩
  | _ => cases e2
/-! comparisons -/
def cmpD (h : Int → Int → Bool) : D → D → M D
  | .int i, .int j => M.ret (.bl (h i j))
  | _, _ => M.fail
theorem snd_cmp {K : PySem.W.Frag} {h : Int → Int → Bool} : SndR K (rI0 fun i j => .bl (h i j)) (cmpD h) := by
  intro G H b x y dx dy d b' Q rx ry fz ob e q
  cases rx with
  | int i =>
    cases ry with
    | int j => cases e; exact ⟨i, j, rfl, rfl, q _ G H (Nxt.refl fz ob) (.bl _)⟩
    | _ => cases e
  | _ => cases ry <;> cases e
abbrev ltD : D → D → M D := cmpD fun i j => decide (i < j)
abbrev leD : D → D → M D := cmpD fun i j => decide (i ≤ j)
abbrev gtD : D → D → M D := cmpD fun i j => decide (j < i)
abbrev geD : D → D → M D := cmpD fun i j => decide (j ≤ i)
theorem t_lt (ha : DE X a f) (hb : DE X b g) : DT X (.Compare a [.Lt] [b] pos) (fun ρ => M.bind (f ρ) fun x => M.bind (g ρ) fun y => M.bind (ltD x y) asB) := t_cmp op_lt snd_cmp ha hb (nomark _)
theorem t_le (ha : DE X a f) (hb : DE X b g) : DT X (.Compare a [.LtE] [b] pos) (fun ρ => M.bind (f ρ) fun x => M.bind (g ρ) fun y => M.bind (leD x y) asB) := t_cmp op_le snd_cmp ha hb (nomark _)
theorem t_gt (ha : DE X a f) (hb : DE X b g) : DT X (.Compare a [.Gt] [b] pos) (fun ρ => M.bind (f ρ) fun x => M.bind (g ρ) fun y => M.bind (gtD x y) asB) := t_cmp op_gt snd_cmp ha hb (nomark _)
theorem t_ge (ha : DE X a f) (hb : DE X b g) : DT X (.Compare a [.GtE] [b] pos) (fun ρ => M.bind (f ρ) fun x => M.bind (g ρ) fun y => M.bind (geD x y) asB) := t_cmp op_ge snd_cmp ha hb (nomark _)
theorem d_lt (ha : DE X a f) (hb : DE X b g) : DE X (.Compare a [.Lt] [b] pos) (fun ρ => M.bind (f ρ) fun x => M.bind (g ρ) fun y => ltD x y) := d_cmp op_lt snd_cmp ha hb (nomark _)
theorem d_le (ha : DE X a f) (hb : DE X b g) : DE X (.Compare a [.LtE] [b] pos) (fun ρ => M.bind (f ρ) fun x => M.bind (g ρ) fun y => leD x y) := d_cmp op_le snd_cmp ha hb (nomark _)
theorem d_gt (ha : DE X a f) (hb : DE X b g) : DE X (.Compare a [.Gt] [b] pos) (fun ρ => M.bind (f ρ) fun x => M.bind (g ρ) fun y => gtD x y) := d_cmp op_gt snd_cmp ha hb (nomark _)
theorem d_ge (ha : DE X a f) (hb : DE X b g) : DE X (.Compare a [.GtE] [b] pos) (fun ρ => M.bind (f ρ) fun x => M.bind (g ρ) fun y => geD x y) := d_cmp op_ge snd_cmp ha hb (nomark _)
end
end DL
set_option Elab.async false
set_option maxRecDepth 100000
set_option autoImplicit false
set_option linter.unusedVariables false
set_option maxHeartbeats 4000000
namespace DL
open PySem L2 PySem.Spec PyProof.Rows
/-! ### equality -/
mutual
def toPy : D → Option PyData
  | .non => some .none
  | .bl b => some (.bool b)
  | .int i => some (.int i)
  | .str x => some (.str ⟨x.toArray⟩)
  | .lst xs => match toPyL xs with
    | some l => some (.list l)
    | none => none
  | .tup xs => match toPyL xs with
    | some l => some (.tuple l)
    | none => none
  | .dct _ _ => none
  | .dcT _ _ => none
  | .obj _ _ => none
  | .bag _ => none
  | .scr _ => none
def toPyL : List D → Option (List PyData)
  | [] => some []
  | d :: ds => match toPy d with
    | some a => match toPyL ds with
      | some l => some (a :: l)
      | none => none
    | none => none
end
mutual
theorem Rp.dp {K : PySem.W.Frag} {G : Hp} : ∀ {v : V} {d : D} {e : PyData}, Rp K G v d → toPy d = some e → Dp K G v e
  | _, _, _, .non, h => by unfold toPy at h; cases h; exact .non
  | _, _, _, .bl b, h => by unfold toPy at h; cases h; exact .bl b
  | _, _, _, .int i, h => by unfold toPy at h; cases h; exact .int i
  | _, _, _, .str x, h => by unfold toPy at h; cases h; exact .str _
  | _, _, _, .lst (ds := ds) h1 r, h => by
    unfold toPy at h
    cases e : toPyL ds with
    | none => rw [e] at h; cases h
    | some l => rw [e] at h; cases h; exact .lst (SqL.of h1) (RpL.dp r e)
  | _, _, _, .tup (ds := ds) h1 r, h => by
    unfold toPy at h
    cases e : toPyL ds with
    | none => rw [e] at h; cases h
    | some l => rw [e] at h; cases h; exact .tup h1 (RpL.dp r e)
  | _, _, _, .dct _ _ _, h => by unfold toPy at h; cases h
  | _, _, _, .dcT _ _ _, h => by unfold toPy at h; cases h
  | _, _, _, .obj _ _ _ _, h => by unfold toPy at h; cases h
  | _, _, _, .bag _, h => by unfold toPy at h; cases h
  | _, _, _, .scr _, h => by unfold toPy at h; cases h
theorem RpL.dp {K : PySem.W.Frag} {G : Hp} : ∀ {vs : List V} {ds : List D} {es : List PyData}, RpL K G vs ds → toPyL ds = some es → DpAll K G vs es
  | _, _, _, .nil, h => by unfold toPyL at h; cases h; exact .nil
  | _, _, _, .cons (d := d) (ds := ds) a b, h => by
    unfold toPyL at h
    cases e1 : toPy d with
    | none => rw [e1] at h; cases h
    | some x =>
      rw [e1] at h
      cases e2 : toPyL ds with
      | none => rw [e2] at h; cases h
      | some l => rw [e2] at h; cases h; exact .cons (Rp.dp a e1) (RpL.dp b e2)
end
def eqDeep (neg : Bool) (x y : D) : M D := match toPy x with
  | some a => match toPy y with
    | some b => M.guard (SeqAt.shaped a && SeqAt.shaped b) (M.ret (.bl (if neg then !PyData.eqv a b else PyData.eqv a b)))
    | none => M.fail
  | none => M.fail
def eqD (neg : Bool) : D → D → M D
  | .int i, .int j => M.ret (.bl (if neg then !decide (i = j) else decide (i = j)))
  | .str i, .str j => M.ret (.bl (if neg then !decide (i = j) else decide (i = j)))
  | .bl i, .bl j => M.ret (.bl (if neg then !decide (i = j) else decide (i = j)))
  | x, y => eqDeep neg x y
theorem dec_S (x y : List Nat) : decide (V.str ⟨x.toArray⟩ = V.str ⟨y.toArray⟩) = decide (x = y) := by
  by_cases h : x = y
  · subst h; simp
  · rw [decide_eq_false h, decide_eq_false]
    intro z
    apply h
    have := V.str.inj z
    have := congrArg Str.cps this
    simpa using this
theorem dec_I (x y : Int) : decide (V.int x = V.int y) = decide (x = y) := by
  by_cases h : x = y
  · subst h; simp
  · rw [decide_eq_false h, decide_eq_false fun z => h (V.int.inj z)]
theorem dec_B (x y : Bool) : decide (V.bl x = V.bl y) = decide (x = y) := by
  by_cases h : x = y
  · subst h; simp
  · rw [decide_eq_false h, decide_eq_false fun z => h (V.bl.inj z)]
theorem eqDeep_some {neg : Bool} {x y d : D} {b b' : Bs} (h : eqDeep neg x y b = some (d, b')) : ∃ e1 e2, toPy x = some e1 ∧ toPy y = some e2 ∧ SeqAt.shaped e1 = true ∧ SeqAt.shaped e2 = true ∧ d = .bl (if neg then !PyData.eqv e1 e2 else PyData.eqv e1 e2) ∧ b = b' := by
  unfold eqDeep at h
  cases e1 : toPy x with
  | none => rw [e1] at h; cases h
  | some a1 =>
    cases e2 : toPy y with
    | none => rw [e1, e2] at h; cases h
    | some a2 =>
      rw [e1, e2] at h
      obtain ⟨c, h⟩ := M.guard_some h
      cases h
      rw [Bool.and_eq_true] at c
      exact ⟨a1, a2, rfl, rfl, c.1, c.2, rfl, rfl⟩
theorem snd_eq {K : PySem.W.Frag} : SndR K (fun x y H Q => rEq x y H Q ∨ rEqD K x y H Q) (eqD false) := by
  intro G H b x y dx dy d b' Q rx ry fz ob e q
  have deep : eqDeep false dx dy b = some (d, b') → rEq x y H Q ∨ rEqD K x y H Q := fun h => by
    obtain ⟨e1, e2, h1, h2, h3, h4, rfl, rfl⟩ := eqDeep_some h
    exact .inr ⟨e1, e2, (rx.mono fz).dp h1, (ry.mono fz).dp h2, h3, h4, q _ G H (Nxt.refl fz ob) (.bl _)⟩
  cases rx with
  | int i =>
    cases ry with
    | int j =>
      cases e
      refine .inl ⟨rfl, ?_⟩
      rw [dec_I]; exact q _ G H (Nxt.refl fz ob) (.bl _)
    | _ => exact deep e
  | str i =>
    cases ry with
    | str j =>
      cases e
      refine .inl ⟨rfl, ?_⟩
      rw [dec_S]; exact q _ G H (Nxt.refl fz ob) (.bl _)
    | _ => exact deep e
  | bl i =>
    cases ry with
    | bl j =>
      cases e
      refine .inl ⟨rfl, ?_⟩
      rw [dec_B]; exact q _ G H (Nxt.refl fz ob) (.bl _)
    | _ => exact deep e
  | _ => exact deep e
theorem snd_ne {K : PySem.W.Frag} : SndR K (fun x y H Q => rNe x y H Q ∨ rNeD K x y H Q) (eqD true) := by
  intro G H b x y dx dy d b' Q rx ry fz ob e q
  have deep : eqDeep true dx dy b = some (d, b') → rNe x y H Q ∨ rNeD K x y H Q := fun h => by
    obtain ⟨e1, e2, h1, h2, h3, h4, rfl, rfl⟩ := eqDeep_some h
    exact .inr ⟨e1, e2, (rx.mono fz).dp h1, (ry.mono fz).dp h2, h3, h4, q _ G H (Nxt.refl fz ob) (.bl _)⟩
  cases rx with
  | int i =>
    cases ry with
    | int j =>
      cases e
      refine .inl ⟨rfl, ?_⟩
      rw [dec_I]; exact q _ G H (Nxt.refl fz ob) (.bl _)
    | _ => exact deep e
  | str i =>
    cases ry with
    | str j =>
      cases e
      refine .inl ⟨rfl, ?_⟩
      rw [dec_S]; exact q _ G H (Nxt.refl fz ob) (.bl _)
    | _ => exact deep e
  | bl i =>
    cases ry with
    | bl j =>
      cases e
      refine .inl ⟨rfl, ?_⟩
      rw [dec_B]; exact q _ G H (Nxt.refl fz ob) (.bl _)
    | _ => exact deep e
  | _ => exact deep e
section
variable {X : Cx} {a b : Expr} {f g : Env → M D} {pos : Pos}
theorem t_eq (hu : X.A.units + 64 < cLine) (ha : DE X a f) (hb : DE X b g) : DT X (.Compare a [.Eq] [b] pos) (fun ρ => M.bind (f ρ) fun x => M.bind (g ρ) fun y => M.bind (eqD false x y) asB) := t_cmp (op_eq.or (op_eqD hu)) snd_eq ha hb (nomark _)
theorem d_eq (hu : X.A.units + 64 < cLine) (ha : DE X a f) (hb : DE X b g) : DE X (.Compare a [.Eq] [b] pos) (fun ρ => M.bind (f ρ) fun x => M.bind (g ρ) fun y => eqD false x y) := d_cmp (op_eq.or (op_eqD hu)) snd_eq ha hb (nomark _)
theorem t_ne (hu : X.A.units + 64 < cLine) (ha : DE X a f) (hb : DE X b g) : DT X (.Compare a [.NotEq] [b] pos) (fun ρ => M.bind (f ρ) fun x => M.bind (g ρ) fun y => M.bind (eqD true x y) asB) := t_cmp (op_ne.or (op_neD hu)) snd_ne ha hb (nomark _)
theorem d_ne (hu : X.A.units + 64 < cLine) (ha : DE X a f) (hb : DE X b g) : DE X (.Compare a [.NotEq] [b] pos) (fun ρ => M.bind (f ρ) fun x => M.bind (g ρ) fun y => eqD true x y) := d_cmp (op_ne.or (op_neD hu)) snd_ne ha hb (nomark _)
/-! one sign in a text -/
def inD (neg : Bool) : D → D → M D
  | .str [c], .str z => M.ret (.bl (if neg then !decide (c ∈ z) else decide (c ∈ z)))
  | _, _ => M.fail
theorem inD_some {neg : Bool} {x y d : D} {b b' : Bs} (h : inD neg x y b = some (d, b')) : ∃ c z, x = .str [c] ∧ y = .str z ∧ d = .bl (if neg then !decide (c ∈ z) else decide (c ∈ z)) ∧ b = b' := by
  unfold inD at h
  split at h
  · cases h; exact ⟨_, _, rfl, rfl, rfl, rfl⟩
  · cases h
theorem snd_in : SndR X.K (fun x y H Q => ∃ (c : Nat) (z : Str), x = .str ⟨#[c]⟩ ∧ y = .str z ∧ Q (.bl (decide (c ∈ z.cps.toList))) H) (inD false) := by
  intro G H b x y dx dy d b' Q rx ry fz ob e q
  obtain ⟨c, z, rfl, rfl, rfl, rfl⟩ := inD_some e
  cases rx
  cases ry
  refine ⟨c, _, rfl, rfl, ?_⟩
  exact q _ G H (Nxt.refl fz ob) (.bl _)
theorem snd_notIn : SndR X.K (fun x y H Q => ∃ (c : Nat) (z : Str), x = .str ⟨#[c]⟩ ∧ y = .str z ∧ Q (.bl (!decide (c ∈ z.cps.toList))) H) (inD true) := by
  intro G H b x y dx dy d b' Q rx ry fz ob e q
  obtain ⟨c, z, rfl, rfl, rfl, rfl⟩ := inD_some e
  cases rx
  cases ry
  refine ⟨c, _, rfl, rfl, ?_⟩
  exact q _ G H (Nxt.refl fz ob) (.bl _)
theorem t_in (ha : DE X a f) (hb : DE X b g) (hm : behindInMarks .In b = false := by rfl) : DT X (.Compare a [.In] [b] pos) (fun ρ => M.bind (f ρ) fun x => M.bind (g ρ) fun y => M.bind (inD false x y) asB) := t_cmp op_in_sign snd_in ha hb hm
theorem d_in (ha : DE X a f) (hb : DE X b g) (hm : behindInMarks .In b = false := by rfl) : DE X (.Compare a [.In] [b] pos) (fun ρ => M.bind (f ρ) fun x => M.bind (g ρ) fun y => inD false x y) := d_cmp op_in_sign snd_in ha hb hm
theorem t_notIn (ha : DE X a f) (hb : DE X b g) (hm : behindInMarks .NotIn b = false := by rfl) : DT X (.Compare a [.NotIn] [b] pos) (fun ρ => M.bind (f ρ) fun x => M.bind (g ρ) fun y => M.bind (inD true x y) asB) := t_cmp op_notIn_sign snd_notIn ha hb hm
theorem d_notIn (ha : DE X a f) (hb : DE X b g) (hm : behindInMarks .NotIn b = false := by rfl) : DE X (.Compare a [.NotIn] [b] pos) (fun ρ => M.bind (f ρ) fun x => M.bind (g ρ) fun y => inD true x y) := d_cmp op_notIn_sign snd_notIn ha hb hm
/-! ### slices -/
def cutL {α : Type} (xs : List α) (lo hi : Option Int) : List α := (xs.drop (HT.sIx xs.length 0 lo)).take (HT.sIx xs.length xs.length hi - HT.sIx xs.length 0 lo)
def tFO (K : PySem.W.Frag) (f : Env → M (Option Int)) : TO := fun σ H Q => ∃ ρ G b d b', RS K G σ ρ ∧ Same G H ∧ BagOk G H b ∧ f ρ b = some (d, b') ∧ ∀ G' H', Nxt G H b G' H' b' → Q d H'
abbrev DO (X : Cx) (e : Option Expr) (f : Env → M (Option Int)) : Prop := PO X e (tFO X.K f)
theorem POimp {e : Option Expr} {t t' : TO} (h : PO X e t) (i : ∀ σ H Q, t' σ H Q → t σ H Q) : PO X e t' := ⟨fun pins s σ H Q I q => h.run pins s σ H Q I (i σ H Q q)⟩
theorem do_none : DO X none (fun _ => M.ret none) := by
  refine POimp po_none ?_
  rintro σ H Q ⟨ρ, G, b, d, b', rs, fz, ob, e, q⟩
  cases e
  exact q G H (Nxt.refl fz ob)
def asI : D → M (Option Int)
  | .int i => M.ret (some i)
  | _ => M.fail
theorem do_some (ha : DE X a f) : DO X (some a) (fun ρ => M.bind (f ρ) asI) := by
  refine POimp (po_some ha) ?_
  rintro σ H Q ⟨ρ, G, b, d, b', rs, fz, ob, e, q⟩
  obtain ⟨x, b1, e1, e2⟩ := M.bind_some e
  refine ⟨ρ, G, b, x, b1, rs, fz, ob, e1, fun v G1 H1 n1 r => ?_⟩
  cases r with
  | int i => cases e2; exact ⟨i, rfl, q _ _ n1⟩
  | _ => cases e2
def slD (lo hi : Option Int) : D → M D
  | .str x => M.guard (szS x.length) (M.ret (.str (cutL x lo hi)))
  | .lst xs => M.ret (.lst (cutL xs lo hi))
  | .scr ns => M.ret (.lst (cutL (ns.map D.int) lo hi))
  | .tup xs => M.guard (!(decide (HT.sIx xs.length 0 lo = 0) && decide (HT.sIx xs.length xs.length hi = xs.length))) (M.ret (.tup (cutL xs lo hi)))
  | _ => M.fail
theorem RpL.cut {K : PySem.W.Frag} {G : Hp} {vs : List V} {ds : List D} (r : RpL K G vs ds) (lo hi : Option Int) : RpL K G (cutV vs lo hi) (cutL ds lo hi) := by
  unfold cutV cutL
  rw [r.length]
  exact (r.drop _).take _
theorem cutS_L (x : List Nat) (lo hi : Option Int) : cutS ⟨x.toArray⟩ lo hi = ⟨(cutL x lo hi).toArray⟩ := by
  unfold cutS cutL
  rw [szStr]
theorem d_slice {p2 : Pos} {lo hi : Option Expr} {fl fh : Env → M (Option Int)} (ha : DE X a f) (hl : DO X lo fl) (hh : DO X hi fh) :
    DE X (.Subscript a (.Slice lo hi none p2) pos) (fun ρ => M.bind (f ρ) fun x => M.bind (fl ρ) fun l => M.bind (fh ρ) fun h => slD l h x) := by
  refine PEimp (pe_slice (sl_str.or (sl_list.or sl_tup)) ha hl hh) ?_
  rintro σ H Q ⟨ρ, G, b, d, b', rs, fz, ob, e, q⟩
  obtain ⟨x, b1, e1, e⟩ := M.bind_some e
  obtain ⟨l, b2, e2, e⟩ := M.bind_some e
  obtain ⟨h, b3, e3, e⟩ := M.bind_some e
  refine ⟨ρ, G, b, x, b1, rs, fz, ob, e1, fun v G1 H1 n1 r => ?_⟩
  refine ⟨ρ, G1, b1, l, b2, rs.mono n1.gg, n1.fz, n1.bag, e2, fun G2 H2 n2 => ?_⟩
  refine ⟨ρ, G2, b2, h, b3, (rs.mono n1.gg).mono n2.gg, n2.fz, n2.bag, e3, fun G3 H3 n3 => ?_⟩
  have r := (r.mono n2.gg).mono n3.gg
  have q : ∀ v G' H', Nxt G3 H3 b3 G' H' b' → Rp X.K G' v d → Q v H' := fun v G' H' n rr => q v G' H' (((n1.trans n2).trans n3).trans n) rr
  cases r with
  | str x =>
    obtain ⟨c, e⟩ := M.guard_some e
    cases e
    refine .inl ⟨_, rfl, by rw [szStr]; exact of_decide_eq_true c, ?_⟩
    rw [cutS_L]
    exact q _ G3 H3 (Nxt.refl n3.fz n3.bag) (.str _)
  | lst hx rl =>
    cases e
    exact .inr (.inl ⟨_, _, rfl, SqL.of (n3.fz _ _ hx), fun p hp => q_newL n3.fz n3.bag hp (rl.cut l h) q⟩)
  | scr hx =>
    cases e
    exact .inr (.inl ⟨_, _, rfl, Same.seq n3.fz hx, fun p hp => q_newL n3.fz n3.bag hp ((RpL.ints _).cut l h) q⟩)
  | tup hx rl =>
    obtain ⟨c, e⟩ := M.guard_some e
    cases e
    refine .inr (.inr ⟨_, _, rfl, Same.sqt n3.fz hx, ?_, fun p hp => q_newT n3.fz n3.bag hp (rl.cut l h) q⟩)
    rw [rl.length]
    rintro ⟨z1, z2⟩
    simp [z1, z2] at c
  | _ => cases e
theorem str_rev_pick (x : List Nat) (t : Tok) : (slicePicked ⟨x.toArray⟩ none none (some (-1, t))).filterMap ((⟨x.toArray⟩ : Str).cps[·]?) = x.reverse := by
  have e1 : slicePicked ⟨x.toArray⟩ none none (some (-1, t)) = sliceRange ((((⟨x.toArray⟩ : Str).length : Nat) : Int) - 1) (-1) (-1) := rfl
  rw [e1, PySem.W.krv_sliceRange, PySem.W.krv_range, List.filterMap_reverse]
  have e2 : (⟨x.toArray⟩ : Str).length = x.toArray.size := rfl
  rw [e2]
  show ((List.range x.toArray.size).filterMap (x.toArray[·]?)).reverse = _
  rw [PySem.W.krv_all]
def tRevS (te : TE) : TE := fun σ H Q => te σ H fun x H1 => ∃ z : List Nat, x = .str ⟨z.toArray⟩ ∧ z.length ≤ sizeLine ∧ Q (.str ⟨z.reverse.toArray⟩) H1
theorem pe_revS {e : Expr} {te : TE} {k : Nat} {p1 p2 p3 : Pos} (he : PE X e te) : PE X (.Subscript e (.Slice none none (some (.UnaryOp .USub (.Constant (.int 1) k p1) p2)) p3) pos) (tRevS te) := by
  refine ⟨fun pins s σ H Q I h => ?_⟩
  refine Subscript_ (thn (he.run pins s σ H _ I h) fun v s1 ⟨x, H1, I1, r1, q1⟩ => ?_)
  obtain ⟨z, rfl, hz, q⟩ := q1
  obtain ⟨t0, rfl⟩ := r1
  have hst : PO X (some (.UnaryOp .USub (.Constant (.int 1) k p1) p2)) (tPart (tUn (rU fun i => .int (-i)) (tC (.int 1)))) := po_some (pe_un un_neg pe_int)
  refine wpAny_Slice (thn (po_none.run pins s1 σ H1 (fun o H2 => o = none ∧ H2 = H1) I1 ⟨rfl, rfl⟩) fun vl s2 ⟨l, H2, I2, pl, el, e2⟩ => ?_)
  subst el e2
  cases pl
  refine thn (po_none.run pins s2 σ H2 (fun o H3 => o = none ∧ H3 = H2) I2 ⟨rfl, rfl⟩) fun vu s3 ⟨u, H3, I3, pu, eu, e3⟩ => ?_
  subst eu e3
  cases pu
  refine thn (hst.run pins s3 σ H3 (fun o H4 => o = some (-1) ∧ H4 = H3) I3 ⟨1, rfl, -1, rfl, rfl, rfl⟩) fun vs s4 ⟨o, H4, I4, ps, eo, e4⟩ => ?_
  subst eo e4
  cases ps with
  | int i t1 =>
    have I5 : Inv X pins σ H4 { s4 with heap := s4.heap.push { cls := .type "slice", data := .fields #[.none, .none, .int (-1) t1] } } := I4.kept (t' := s4.toks) fun b ob q => Heap.get?_push_of_some _ q
    refine tail_any (ops := [.str ⟨z.toArray⟩ t0, .ref s4.heap.objs.size]) (typeIs_str _ _ _) F.slot_str_getitem.lookup ?_ (by with_unfolding_all rfl)
    refine wpAny_getItem_str_slice (l := none) (u := none) (st := some (-1, t1)) ⟨_, Heap.get?_push_size _ rfl, rfl, rfl⟩ rfl ?_
    have em : sliceMade ⟨z.toArray⟩ t0 none none (some (-1, t1)) = .str ⟨z.reverse.toArray⟩ := by
      unfold sliceMade
      rw [if_neg (by simp), str_rev_pick]
    rw [em]
    refine ⟨?_, ⟨.str ⟨z.reverse.toArray⟩, H4, I5.tok _, ⟨_, rfl⟩, q⟩⟩
    show (⟨z.reverse.toArray⟩ : Str).length ≤ sizeLine
    rw [szStr, List.length_reverse]; exact hz
def revD : D → M D
  | .str x => M.guard (szS x.length) (M.ret (.str x.reverse))
  | .lst x => M.ret (.lst x.reverse)
  | _ => M.fail
theorem RpL.rev {K : PySem.W.Frag} {G : Hp} : ∀ {vs : List V} {ds : List D}, RpL K G vs ds → RpL K G vs.reverse ds.reverse
  | _, _, .nil => .nil
  | _, _, .cons a b => by
    rw [List.reverse_cons, List.reverse_cons]
    exact (RpL.rev b).append (.cons a .nil)
theorem d_rev {k : Nat} {p1 p2 p3 : Pos} (ha : DE X a f) : DE X (.Subscript a (.Slice none none (some (.UnaryOp .USub (.Constant (.int 1) k p1) p2)) p3) pos) (fun ρ => M.bind (f ρ) revD) := by
  have h1 := pe_revS (pos := pos) (k := k) (p1 := p1) (p2 := p2) (p3 := p3) ha
  have h2 := pe_revL (pos := pos) (k := k) (p1 := p1) (p2 := p2) (p3 := p3) ha
  refine ⟨fun pins s σ H Q I q0 => ?_⟩
  obtain ⟨ρ, G, b, d, b', rs, fz, ob, e, q⟩ := q0
  obtain ⟨x, b1, e1, e2⟩ := M.bind_some e
  cases x with
  | str x =>
    obtain ⟨c, e3⟩ := M.guard_some e2
    cases e3
    refine h1.run pins s σ H Q I ⟨ρ, G, b, _, b', rs, fz, ob, e1, fun v G1 H1 n1 r => ?_⟩
    cases r
    exact ⟨x, rfl, of_decide_eq_true c, q _ _ _ n1 (.str _)⟩
  | lst xs =>
    cases e2
    refine h2.run pins s σ H Q I ⟨ρ, G, b, _, b', rs, fz, ob, e1, fun v G1 H1 n1 r => ?_⟩
    cases r with
    | lst hx rl => exact ⟨_, _, rfl, SqL.of (n1.fz _ _ hx), fun p hp => q_newL n1.fz n1.bag hp rl.rev fun v G' H' n rr => q v G' H' (n1.trans n) rr⟩
  | _ => cases e2
/-! ### what is built in -/
theorem RpL.one {K : PySem.W.Frag} {G : Hp} {vs : List V} {d : D} (r : RpL K G vs [d]) : ∃ v, vs = [v] ∧ Rp K G v d := by
  cases r with
  | cons r1 r2 => cases r2; exact ⟨_, rfl, r1⟩
def lenF : List D → M D
  | [.str x] => M.guard (szS x.length) (M.ret (.int x.length))
  | [.lst x] => M.ret (.int x.length)
  | [.tup x] => M.ret (.int x.length)
  | _ => M.fail
theorem snd_len : SndC X.K (fun xs H Q => ∃ x n, xs = [x] ∧ LenV X.K x H n ∧ Q (.int n) H) lenF := by
  intro G H b vs ds d b' Q r fz ob e q
  unfold lenF at e
  split at e
  · obtain ⟨v, rfl, r1⟩ := r.one
    cases r1
    obtain ⟨c, e⟩ := M.guard_some e
    cases e
    refine ⟨_, _, rfl, ⟨?_, rfl⟩, ?_⟩
    · rw [szStr]; exact of_decide_eq_true c
    · rw [szStr]; exact q _ _ _ (Nxt.refl fz ob) (.int _)
  · obtain ⟨v, rfl, r1⟩ := r.one
    cases r1 with
    | lst h rl => cases e; exact ⟨_, _, rfl, .inl ⟨_, SqL.of (fz _ _ h), rfl⟩, by rw [rl.length]; exact q _ _ _ (Nxt.refl fz ob) (.int _)⟩
  · obtain ⟨v, rfl, r1⟩ := r.one
    cases r1 with
    | tup h rl => cases e; exact ⟨_, _, rfl, .inr ⟨_, Same.sqt fz h, rfl⟩, by rw [rl.length]; exact q _ _ _ (Nxt.refl fz ob) (.int _)⟩
  · cases e
def absF : List D → M D
  | [.int i] => M.ret (.int (if i < 0 then -i else i))
  | _ => M.fail
theorem snd_abs : SndC X.K (fun xs H Q => ∃ i, xs = [.int i] ∧ Q (.int (if i < 0 then -i else i)) H) absF := by
  intro G H b vs ds d b' Q r fz ob e q
  unfold absF at e
  split at e
  · obtain ⟨v, rfl, r1⟩ := r.one
    cases r1
    cases e
    exact ⟨_, rfl, q _ _ _ (Nxt.refl fz ob) (.int _)⟩
  · cases e
def intF : List D → M D
  | [.int i] => M.ret (.int i)
  | [.bl k] => M.ret (.int (if k then 1 else 0))
  | [.str x] => match PySem.intText? ⟨x.toArray⟩ with
    | some n => M.guard (decide (x.length ≤ 640)) (M.ret (.int n))
    | none => M.fail
  | _ => M.fail
theorem CallR.or {c : Value} {r r' : List V → Hp → VK → Prop} (h : CallR X c r) (h' : CallR X c r') : CallR X c (fun xs H Q => r xs H Q ∨ r' xs H Q) := by
  intro pins s σ H xs us Q I rs q
  rcases q with q | q
  · exact h pins s σ H xs us Q I rs q
  · exact h' pins s σ H xs us Q I rs q
theorem snd_int : SndC X.K (fun xs H Q => ((∃ i, xs = [.int i] ∧ Q (.int i) H) ∨ ∃ k, xs = [.bl k] ∧ Q (.int (if k then 1 else 0)) H) ∨ (∃ a n, xs = [.str a] ∧ PySem.intText? a = some n ∧ a.length ≤ 640 ∧ Q (.int n) H)) intF := by
  intro G H b vs ds d b' Q r fz ob e q
  unfold intF at e
  split at e
  · obtain ⟨v, rfl, r1⟩ := r.one
    cases r1
    cases e
    exact .inl (.inl ⟨_, rfl, q _ _ _ (Nxt.refl fz ob) (.int _)⟩)
  · obtain ⟨v, rfl, r1⟩ := r.one
    cases r1
    cases e
    exact .inl (.inr ⟨_, rfl, q _ _ _ (Nxt.refl fz ob) (.int _)⟩)
  · obtain ⟨v, rfl, r1⟩ := r.one
    cases r1
    rename_i x
    cases e1 : PySem.intText? ⟨x.toArray⟩ with
    | none => rw [e1] at e; cases e
    | some n =>
      rw [e1] at e
      obtain ⟨c, e⟩ := M.guard_some e
      cases e
      exact .inr ⟨_, n, rfl, e1, by rw [szStr]; exact of_decide_eq_true c, q _ _ _ (Nxt.refl fz ob) (.int _)⟩
  · cases e
variable {x : Str} {p : Pos} {e : Expr} {fa : Env → M (List D)}
theorem d_len (hg : Gl X "len") (hm : X.mg "len" = none) (ha : DA X [e] fa) (he : starEach [e] X.env = (false, eval e X.env) :: starEach [] X.env := by rfl) : DE X (.Call (.Name "len" p) [e] [] pos) (fun ρ => M.bind (fa ρ) lenF) :=
  d_callB call_len snd_len hg hm PySem.boot_len ha (he := he)
theorem d_abs (hg : Gl X "abs") (hm : X.mg "abs" = none) (ha : DA X [e] fa) (he : starEach [e] X.env = (false, eval e X.env) :: starEach [] X.env := by rfl) : DE X (.Call (.Name "abs" p) [e] [] pos) (fun ρ => M.bind (fa ρ) absF) :=
  d_callB call_abs snd_abs hg hm (by decide +kernel) ha (he := he)
theorem d_cint (hg : Gl X "int") (hm : X.mg "int" = none) (ha : DA X [e] fa) (he : starEach [e] X.env = (false, eval e X.env) :: starEach [] X.env := by rfl) : DE X (.Call (.Name "int" p) [e] [] pos) (fun ρ => M.bind (fa ρ) intF) :=
  d_callTy (CallR.or call_int1 call_int_str) snd_int hg hm (by decide +kernel) ha (he := he)
/-! text.join(list of texts) -/
def asTs : List D → Option (List (List Nat))
  | [] => some []
  | .str x :: r => match asTs r with
    | some l => some (x :: l)
    | none => none
  | _ => none
def joinF (s : D) (l : D) : M D := match s, l with
  | .str a, .lst ds => match asTs ds with
    | some xs => M.guard (decide ((xs.map List.length).sum + xs.length * a.length ≤ 16777216)) (M.ret (D.str (TL.joinL a xs)))
    | none => M.fail
  | _, _ => M.fail
theorem joinF_some {s l d : D} {b b' : Bs} (h : joinF s l b = some (d, b')) : ∃ a ds xs, s = .str a ∧ l = .lst ds ∧ asTs ds = some xs ∧ (xs.map List.length).sum + xs.length * a.length ≤ 16777216 ∧ d = .str (TL.joinL a xs) ∧ b = b' := by
  cases s with
  | str a =>
    cases l with
    | lst ds =>
      have h' : (match asTs ds with
        | some xs => M.guard (decide ((xs.map List.length).sum + xs.length * a.length ≤ 16777216)) (M.ret (D.str (TL.joinL a xs)))
        | none => M.fail) b = some (d, b') := h
      cases e4 : asTs ds with
      | none => rw [e4] at h'; cases h'
      | some xs =>
        rw [e4] at h'
        obtain ⟨c, e3⟩ := M.guard_some h'
        cases e3
        exact ⟨a, ds, xs, rfl, rfl, e4, of_decide_eq_true c, rfl, rfl⟩
    | _ => cases h
  | _ => cases h
theorem RpL.texts {K : PySem.W.Frag} {G : Hp} : ∀ {vs : List V} {ds : List D} {xs : List (List Nat)}, RpL K G vs ds → asTs ds = some xs → vs = (xs.map fun x => (⟨x.toArray⟩ : Str)).map V.str
  | _, _, _, .nil, h => by cases h; rfl
  | _, _, _, .cons (d := d) (ds := ds) a r, h => by
    cases a with
    | str x =>
      unfold asTs at h
      cases e : asTs ds with
      | none => rw [e] at h; cases h
      | some l =>
        rw [e] at h
        cases h
        rw [RpL.texts r e]
        rfl
    | _ => cases h
theorem join_tl (a : List Nat) (xs : List (List Nat)) : Txt.join ⟨a.toArray⟩ (xs.map fun x => (⟨x.toArray⟩ : Str)) = ⟨(TL.joinL a xs).toArray⟩ := by
  exact SX.join_S a xs
theorem d_join {apos : Pos} (ha : DE X a f) (hb : DE X b g) (hs : starEach [b] X.env = [(false, eval b X.env)] := by rfl) (hbase : attributeBase a "join" X.env (eval a X.env) = eval a X.env := by rfl) (hline : (apos.endLine == pos.line) = true := by rfl) :
    DE X (.Call (.Attribute a "join" apos) [b] [] pos) (fun ρ => M.bind (f ρ) fun x => M.bind (g ρ) fun y => joinF x y) := by
  refine PEimp (pe_join ha hb hs hbase hline) ?_
  rintro σ H Q ⟨ρ, G, b, d, b', rs, fz, ob, e, q⟩
  obtain ⟨x, b1, e1, e⟩ := M.bind_some e
  obtain ⟨y, b2, e2, e3⟩ := M.bind_some e
  refine ⟨ρ, G, b, x, b1, rs, fz, ob, e1, fun v G1 H1 n1 r1 => ?_⟩
  cases r1 with
  | str a =>
    refine ⟨⟨_, rfl⟩, ρ, G1, b1, y, b2, rs.mono n1.gg, n1.fz, n1.bag, e2, fun v2 G2 H2 n2 r2 => ?_⟩
    obtain ⟨a0, ds, xs, z1, rfl, e4, c, rfl, rfl⟩ := joinF_some e3
    cases z1
    cases r2 with
    | lst h rl =>
      have hv := rl.texts e4
      subst hv
      refine ⟨_, _, _, rfl, rfl, .inl (SqL.of (n2.fz _ _ h)), ?_, ?_⟩
      · have ee : (List.map (fun (z : Str) => z.length) (xs.map fun x => (⟨x.toArray⟩ : Str))) = xs.map List.length := by
          rw [List.map_map]
          apply List.map_congr_left
          intro z _
          exact szStr z
        rw [ee, szStr, List.length_map]
        exact c
      · rw [join_tl]
        exact q _ _ _ (n1.trans n2) (.str _)
  | _ => obtain ⟨_, _, _, z, _⟩ := joinF_some e3; cases z
end
end DL
set_option Elab.async false
set_option maxRecDepth 100000
set_option autoImplicit false
set_option linter.unusedVariables false
set_option maxHeartbeats 4000000
namespace DL
open PySem L2 PySem.Spec PyProof.Rows
/-! ### defs: what they promise, by functions of data -/
def spD (K : PySem.W.Frag) (n : Nat) (F : List D → M D) : Sp := fun vs H Q _ => ∃ G b ds d b', RpL K G vs ds ∧ ds.length = n ∧ Same G H ∧ BagOk G H b ∧ F ds b = some (d, b') ∧
  ∀ v G' H', Nxt G H b G' H' b' → Rp K G' v d → Q v H'
def spN (K : PySem.W.Frag) (n : Nat) (F : List D → M (List D)) : Sp := fun vs H Q _ => ∃ G b ds xs b', RpL K G vs ds ∧ ds.length = n ∧ Same G H ∧ BagOk G H b ∧ F ds b = some (xs, b') ∧
  ∀ p ws G' H', Nxt G H b G' H' b' → H p = none → G' p = none → H' p = some (.lst ws) → RpL K G' ws xs → Q (.ref p) H'
def startD (m : Nat) (ds : List D) : Env2 := ds.map (fun d => some (.val d)) ++ List.replicate (m - ds.length) none
def runD (m : Nat) (F : Env2 → M Out) (ds : List D) : M D := M.bind (F (startD m ds)) fun o => match o with
  | .rt d => M.ret d
  | .rn xs => M.ret (.lst xs)
  | .nx _ => M.ret .non
  | _ => M.fail
def runN (m : Nat) (F : Env2 → M Out) (ds : List D) : M (List D) := M.bind (F (startD m ds)) fun o => match o with
  | .rn xs => M.ret xs
  | _ => M.fail
theorem SI.start {K : PySem.W.Frag} {N : List Str} {G H : Hp} {b : Bs} {vs : List V} {ds : List D} (r : RpL K G vs ds) (fz : Same G H) (ob : BagOk G H b) : SI K ⟨G, H, b⟩ (L2.start N vs) (startD N.length ds) G H b := by
  have hl := r.length
  have old : ∀ (i : Nat) (s : Slot), (startD N.length ds)[i]? = some (some s) → ∃ d, ds[i]? = some d ∧ s = .val d := fun i s h => by
    unfold startD at h
    by_cases hi : i < ds.length
    · rw [List.getElem?_append_left (by simpa using hi), List.getElem?_map] at h
      rw [List.getElem?_eq_getElem hi] at h ⊢
      cases h
      exact ⟨_, rfl, rfl⟩
    · rw [List.getElem?_append_right (by simpa using hi)] at h
      by_cases h2 : i - (ds.map fun d => some (Slot.val d)).length < N.length - ds.length
      · rw [List.getElem?_replicate_of_lt h2] at h; cases h
      · rw [List.getElem?_eq_none (by simpa using h2)] at h; cases h
  refine ⟨fz, fun _ _ h => h, fun _ _ _ h => h, fun _ _ h _ => h, ob, b.like_refl, ?_, fun i d h => ?_, fun _ => [], fun i s o h1 h2 => ?_, fun i a ha => (nomatch ha), fun i => List.nodup_nil, fun i j a ha => (nomatch ha)⟩
  · unfold startD L2.start
    simp [hl]
  · obtain ⟨d', h1, h2⟩ := old i _ h
    cases h2
    obtain ⟨v, h3, h4⟩ := r.get h1
    refine ⟨v, ?_, h4⟩
    unfold L2.start
    have hi : i < vs.length := (List.getElem?_eq_some_iff.mp h3).1
    rw [List.getElem?_append_left (by simpa using hi), List.getElem?_map, h3]
    rfl
  · obtain ⟨d', e1, e2⟩ := old i _ h1
    rw [e2] at h2
    cases h2
theorem run_d {K : PySem.W.Frag} {N : List Str} {n : Nat} {Fs : Env2 → M Out} {vs : List V} {H : Hp} {Q : VK} {E : XK} (h : spD K n (runD N.length Fs) vs H Q E) : tS K Fs { nx := fun _ H' => Q .non H', rt := Q } (L2.start N vs) H := by
  obtain ⟨G, b, ds, d, b', r, hn, fz, ob, e, q⟩ := h
  obtain ⟨o, b1, e1, e2⟩ := M.bind_some e
  refine ⟨⟨G, H, b⟩, _, G, b, o, b1, SI.start r fz ob, e1, ?_⟩
  cases o with
  | rt d => cases e2; exact fun v G' H' n r => q v G' H' n r
  | rn xs =>
    cases e2
    intro p ws G' H' n hp gp hh r
    · have sg : Same G' (upd G' p (.lst ws)) := fun a o h => by rw [upd_ne (ne_of_none h gp)]; exact h
      refine q (.ref p) (upd G' p (.lst ws)) H' ⟨fun a o h => sg a o (n.gg a o h), fun a o h => ?_, n.keep, fun a o h hn => ?_, ?_, n.like⟩ (.lst upd_same (r.mono sg))
      · by_cases ea : a = p
        · subst ea; rw [upd_same] at h; cases h; exact hh
        · rw [upd_ne ea] at h; exact n.fz a o h
      · rw [upd_ne (ne_of_none h hp)]; exact n.new a o h hn
      · have ob' := n.bag
        cases b' with
        | none => trivial
        | some g =>
          obtain ⟨h1, h2, h3⟩ := ob'
          refine ⟨?_, h2, sg _ _ h3⟩
          have nb := bag_ne ob hp
          rw [upd_ne fun z => nb (by rw [Bs.like_at n.like, ← z]; rfl)]
          exact h1
  | nx ρ => cases e2; exact fun σ' G' H' I => q .non G' H' I.nxt .non
  | bk ρ => cases e2
  | ct ρ => cases e2
theorem run_n {K : PySem.W.Frag} {N : List Str} {n : Nat} {Fs : Env2 → M Out} {vs : List V} {H : Hp} {Q : VK} {E : XK} (h : spN K n (runN N.length Fs) vs H Q E) : tS K Fs { nx := fun _ H' => Q .non H', rt := Q } (L2.start N vs) H := by
  obtain ⟨G, b, ds, xs, b', r, hn, fz, ob, e, q⟩ := h
  obtain ⟨o, b1, e1, e2⟩ := M.bind_some e
  refine ⟨⟨G, H, b⟩, _, G, b, o, b1, SI.start r fz ob, e1, ?_⟩
  cases o with
  | rn xs => cases e2; exact fun p ws G' H' n hp gp hh r => q p ws G' H' n hp gp hh r
  | rt d => cases e2
  | nx ρ => cases e2
  | bk ρ => cases e2
  | ct ρ => cases e2
/-! ### defs where no repr is running -/
structure FnG (P : Program) (w : World) (K : PySem.W.Frag) (mg : Str → Option Value) (base : Heap) (k : Nat) (f : Addr) (fd : FuncData) (ps : List Str) (sp : Sp) : Prop where
  len : ∀ vs H Q E, sp vs H Q E → vs.length = ps.length
  run : ∀ (A : Around) (outer : List PySem.Env) (s : Shared) (H : Hp) (args : Args) (us : List Value) (vs : List V) (Q : VK), Room k A → A.guards = some [] →
    Env0 P w K mg base A outer s H → BindsTo s fd args (ps.zip us) → Vals vs us → sp vs H Q E0 → codeAny (model P w) A (.call (.ref f) args) (CR CX0 outer P w H s Q E0) s
section
variable {P : Program} {w : World} {K : PySem.W.Frag} {mg : Str → Option Value} {base : Heap}
theorem FnG.of {k : Nat} {f : Addr} {fd : FuncData} {ps : List Str} {sp : Sp} (F : FnOk P w K mg base CX0 k f fd ps sp) : FnG P w K mg base k f fd ps sp :=
  ⟨F.len, fun A outer s H args us vs Q hr _ e0 hb hv hs => F.run A outer s H args us vs Q E0 hr e0 hb hv hs⟩
theorem fn_g {x qual : Str} {st : Stmt} {f : Addr} {fd : FuncData} {N ps : List Str} {k : Nat} {sp : Sp} (F : Fun K x qual st f fd) (S : FnScope N ps (defScope st)) (len : ∀ vs H Q E, sp vs H Q E → vs.length = ps.length)
    (hbody : ∀ (cdv : Value) (A : Around) (outer : List PySem.Env) (s : Shared) (H : Hp) (vs : List V) (Q : VK), Room k (A.deeper (envOfC qual (defScope st) s.heap.objs.size f cdv)) → A.guards = some [] → sp vs H Q E0 →
      ∃ t, PSs (cxOf CX0 P w K mg base N qual (defScope st) f cdv A outer s H E0).nox (defBody st) t ∧ t { nx := fun _ H' => Q .non H', rt := Q } (L2.start N vs) H) : FnG P w K mg base (k + 1) f fd ps sp := by
  obtain ⟨oc, od, kV, doc, pm, an, cdv, ct, osl, rfl, lk, hcd⟩ := F.ex
  refine ⟨len, fun A outer s H args us vs Q hr hgd e0 hb r hsp => ?_⟩
  have hl := len _ _ _ _ hsp
  have bk := fun b o (e : base.get? b = some o) => (e0.bs b o e).1
  have KX : K.In s.heap := e0.mod.kin.keeps bk
  have lim : s.heap.NoLimit := e0.mod.nolimit.keeps bk
  refine codeAny_call_function hr.depth (KX _ _ lk) rfl S.co S.gen rfl (PySem.W.codeRec_of KX hcd) (hb _ _ _ _ ?_)
  refine wpAny_newFunctionEnv_cells S.kind (fun y hy => ?_) fun env he s1 x => ?_
  · rcases S.par y.1 (List.of_mem_zip (show (y.1, y.2) ∈ _ from hy)).1 with q | q
    · exact .inl q
    · exact .inr ⟨q, PySem.W.cellsFrom_some _ _ _ (.inl q)⟩
  subst he
  refine ⟨lim.keeps x.toInCall.keep, codeAny_func ?_⟩
  obtain ⟨t, ht, hq⟩ := hbody cdv A outer s H vs Q (hr.deeper _) hgd hsp
  have ht := ht.nox
  have I : Inv (cxOf CX0 P w K mg base N qual (defScope st) f cdv A outer s H E0) [] (L2.start N vs) H s1 := inv_start S hr.hd e0 hl r x
  refine wpAny_mono (ht.run [] s1 (L2.start N vs) H _ I hq) (fun fl s' hs => ?_) fun e s' hs => hs
  cases fl with
  | ret u => obtain ⟨v, σ', H', J, rv, q⟩ := hs; exact ⟨v, H', J.os, J.bare, J.base, J.hok, rv, q⟩
  | next => obtain ⟨σ', H', J, q⟩ := hs; exact ⟨.non, H', J.os, J.bare, J.base, J.hok, rfl, q⟩
  | brk => obtain ⟨_, _, _, q⟩ := hs; exact False.elim q
  | cont => obtain ⟨_, _, _, q⟩ := hs; exact False.elim q
theorem spD_len {n : Nat} {F : List D → M D} {ps : List Str} (hn : n = ps.length) : ∀ vs H Q E, spD K n F vs H Q E → vs.length = ps.length := by
  rintro vs H Q E ⟨G, b, ds, d, b', r, h, _⟩
  rw [r.length, h, hn]
theorem spN_len {n : Nat} {F : List D → M (List D)} {ps : List Str} (hn : n = ps.length) : ∀ vs H Q E, spN K n F vs H Q E → vs.length = ps.length := by
  rintro vs H Q E ⟨G, b, ds, d, b', r, h, _⟩
  rw [r.length, h, hn]
variable {x qual : Str} {st : Stmt} {f : Addr} {fd : FuncData} {N ps : List Str} {k : Nat} {Fs : Env2 → M Out}
theorem fnD (F : Fun K x qual st f fd) (S : FnScope N ps (defScope st)) (hb : ∀ (cdv : Value) (A : Around) (outer : List PySem.Env) (s : Shared) (H : Hp) (E : XK), Room k (A.deeper (envOfC qual (defScope st) s.heap.objs.size f cdv)) →
      DSs (cxOf CX0 P w K mg base N qual (defScope st) f cdv A outer s H E).nox (defBody st) Fs) : FnOk P w K mg base CX0 (k + 1) f fd ps (spD K ps.length (runD N.length Fs)) :=
  F.ok S (spD_len rfl) fun cdv A outer s H vs Q E hr h => ⟨_, hb cdv A outer s H E hr, run_d h⟩
theorem fnN (F : Fun K x qual st f fd) (S : FnScope N ps (defScope st)) (hb : ∀ (cdv : Value) (A : Around) (outer : List PySem.Env) (s : Shared) (H : Hp) (E : XK), Room k (A.deeper (envOfC qual (defScope st) s.heap.objs.size f cdv)) →
      DSs (cxOf CX0 P w K mg base N qual (defScope st) f cdv A outer s H E).nox (defBody st) Fs) : FnOk P w K mg base CX0 (k + 1) f fd ps (spN K ps.length (runN N.length Fs)) :=
  F.ok S (spN_len rfl) fun cdv A outer s H vs Q E hr h => ⟨_, hb cdv A outer s H E hr, run_n h⟩
theorem fnGD (F : Fun K x qual st f fd) (S : FnScope N ps (defScope st)) (hb : ∀ (cdv : Value) (A : Around) (outer : List PySem.Env) (s : Shared) (H : Hp), Room k (A.deeper (envOfC qual (defScope st) s.heap.objs.size f cdv)) → A.guards = some [] →
      DSs (cxOf CX0 P w K mg base N qual (defScope st) f cdv A outer s H E0).nox (defBody st) Fs) : FnG P w K mg base (k + 1) f fd ps (spD K ps.length (runD N.length Fs)) :=
  fn_g F S (spD_len rfl) fun cdv A outer s H vs Q hr hg h => ⟨_, hb cdv A outer s H hr hg, run_d h⟩
theorem fnGN (F : Fun K x qual st f fd) (S : FnScope N ps (defScope st)) (hb : ∀ (cdv : Value) (A : Around) (outer : List PySem.Env) (s : Shared) (H : Hp), Room k (A.deeper (envOfC qual (defScope st) s.heap.objs.size f cdv)) → A.guards = some [] →
      DSs (cxOf CX0 P w K mg base N qual (defScope st) f cdv A outer s H E0).nox (defBody st) Fs) : FnG P w K mg base (k + 1) f fd ps (spN K ps.length (runN N.length Fs)) :=
  fn_g F S (spN_len rfl) fun cdv A outer s H vs Q hr hg h => ⟨_, hb cdv A outer s H hr hg, run_n h⟩
end
/-! ### calls of defs -/
section
variable {X : Cx} {k : Nat} {f : Addr} {fd : FuncData} {ps : List Str} {sp : Sp} {x : Str} {p pos : Pos} {e : Expr} {es : List Expr} {t : TA} {n : Nat} {Fn : List D → M D} {Fl : List D → M (List D)} {fa : Env → M (List D)}
theorem pe_callG (F : FnG X.prog X.w X.K X.mg X.base k f fd ps sp) (hr : Room k X.A) (hgd : X.A.guards = some []) (hg : Gl X x) (hm : X.mg x = some (.ref f)) (hk : PySem.W.keepIn X.K (.ref f) = true) (hb : Binds X.K fd ps [])
    (ha : PA X (e :: es) t) (hdb : (x == ("__debug__" : Str)) = false := by decide) (he : starEach (e :: es) X.env = (false, eval e X.env) :: starEach es X.env := by rfl) (hpl : (backTo pos (starEach es X.env)).any (·.1) = false := by rfl) :
    PE X (.Call (.Name x p) (e :: es) [] pos) (tCall sp [] E0 t) := by
  refine ⟨fun pins s σ H Q I h => wpAny_Call_Name_kw (ld_glob I hg hm ?_ hdb)⟩
  refine PySem.W.callWith_K (h₀ := X.base) I.ok.mod.kin hk (thn (ha.run pos pins s σ H _ I h) fun us s1 ⟨vs, H1, I1, r, q⟩ => ⟨I1.kIn, ?_⟩) he hpl
  have q : sp vs H1 Q E0 := by
    have q' : sp (vs ++ []) H1 Q E0 := q
    rw [List.append_nil] at q'
    exact q'
  have hl : (us ++ []).length = ps.length := by rw [List.append_nil, ← r.length]; exact F.len _ _ _ _ q
  have hb1 := hb s1 us I1.kIn hl
  rw [List.append_nil] at hb1
  refine wpAny_call (codeAny_mono (F.run X.A X.stack s1 H1 ⟨us, []⟩ us vs Q hr hgd I1.env0 hb1 r q) fun rr s' hq => ?_)
  cases rr with
  | error e => exact False.elim hq
  | ok fl =>
    cases fl with
    | ret u => exact I1.after hq
    | next => exact False.elim hq
    | brk => exact False.elim hq
    | cont => exact False.elim hq
theorem call_f {K : PySem.W.Frag} (hn : ∀ ρ b ds b', fa ρ b = some (ds, b') → ds.length = n) : ∀ σ H Q, tF K (fun ρ => M.bind (fa ρ) Fn) σ H Q → tCall (spD K n Fn) [] E0 (tFA K fa) σ H Q := by
  rintro σ H Q ⟨ρ, G, b, d, b', rs, fz, ob, e, q⟩
  obtain ⟨ds, b1, e1, e2⟩ := M.bind_some e
  refine ⟨ρ, G, b, ds, b1, rs, fz, ob, e1, fun vs G1 H1 n1 r1 => ?_⟩
  exact ⟨G1, b1, ds, d, b', by rw [List.append_nil]; exact r1, hn _ _ _ _ e1, n1.fz, n1.bag, e2, fun v G2 H2 n2 r2 => q v G2 H2 (n1.trans n2) r2⟩
theorem callN_f {K : PySem.W.Frag} (hn : ∀ ρ b ds b', fa ρ b = some (ds, b') → ds.length = n) : ∀ σ H Q, tN K (fun ρ => M.bind (fa ρ) Fl) σ H Q → tCall (spN K n Fl) [] E0 (tFA K fa) σ H Q := by
  rintro σ H Q ⟨ρ, G, b, d, b', rs, fz, ob, e, q⟩
  obtain ⟨ds, b1, e1, e2⟩ := M.bind_some e
  refine ⟨ρ, G, b, ds, b1, rs, fz, ob, e1, fun vs G1 H1 n1 r1 => ?_⟩
  exact ⟨G1, b1, ds, d, b', by rw [List.append_nil]; exact r1, hn _ _ _ _ e1, n1.fz, n1.bag, e2, fun p ws G2 H2 n2 hp gp hh r2 => q p ws G2 H2 (n1.trans n2) (n1.free hp) gp hh r2⟩
/-- how many arguments come -/
def ArN (fa : Env → M (List D)) (n : Nat) : Prop := ∀ ρ b ds b', fa ρ b = some (ds, b') → ds.length = n
theorem ar_nil : ArN (fun _ => M.ret []) 0 := fun ρ b ds b' h => by cases h; rfl
theorem ar_cons {f : Env → M D} {g : Env → M (List D)} {n : Nat} (h : ArN g n) : ArN (fun ρ => M.bind (f ρ) fun x => M.bind (g ρ) fun xs => M.ret (x :: xs)) (n + 1) := fun ρ b ds b' e => by
  obtain ⟨y, b1, _, e⟩ := M.bind_some e
  obtain ⟨l, b2, e2, e3⟩ := M.bind_some e
  cases e3
  simp [h _ _ _ _ e2]
theorem d_call (F : FnOk X.prog X.w X.K X.mg X.base CX0 k f fd ps (spD X.K n Fn)) (hr : Room k X.A) (hg : Gl X x) (hm : X.mg x = some (.ref f)) (hk : PySem.W.keepIn X.K (.ref f) = true) (hb : Binds X.K fd ps []) (ha : DA X (e :: es) fa) (hn : ArN fa n)
    (hdb : (x == ("__debug__" : Str)) = false := by decide) (he : starEach (e :: es) X.env = (false, eval e X.env) :: starEach es X.env := by rfl) (hpl : (backTo pos (starEach es X.env)).any (·.1) = false := by rfl) :
    DE X (.Call (.Name x p) (e :: es) [] pos) (fun ρ => M.bind (fa ρ) Fn) := PEimp (pe_call F hr hg hm hk hb .nil (fun _ _ _ _ _ _ _ h => h.elim) ha hdb he hpl) (call_f hn)
theorem dn_call (F : FnOk X.prog X.w X.K X.mg X.base CX0 k f fd ps (spN X.K n Fl)) (hr : Room k X.A) (hg : Gl X x) (hm : X.mg x = some (.ref f)) (hk : PySem.W.keepIn X.K (.ref f) = true) (hb : Binds X.K fd ps []) (ha : DA X (e :: es) fa) (hn : ArN fa n)
    (hdb : (x == ("__debug__" : Str)) = false := by decide) (he : starEach (e :: es) X.env = (false, eval e X.env) :: starEach es X.env := by rfl) (hpl : (backTo pos (starEach es X.env)).any (·.1) = false := by rfl) :
    DN X (.Call (.Name x p) (e :: es) [] pos) (fun ρ => M.bind (fa ρ) Fl) := PEimp (pe_call F hr hg hm hk hb .nil (fun _ _ _ _ _ _ _ h => h.elim) ha hdb he hpl) (callN_f hn)
theorem d_callG (F : FnG X.prog X.w X.K X.mg X.base k f fd ps (spD X.K n Fn)) (hr : Room k X.A) (hgd : X.A.guards = some []) (hg : Gl X x) (hm : X.mg x = some (.ref f)) (hk : PySem.W.keepIn X.K (.ref f) = true) (hb : Binds X.K fd ps []) (ha : DA X (e :: es) fa) (hn : ArN fa n)
    (hdb : (x == ("__debug__" : Str)) = false := by decide) (he : starEach (e :: es) X.env = (false, eval e X.env) :: starEach es X.env := by rfl) (hpl : (backTo pos (starEach es X.env)).any (·.1) = false := by rfl) :
    DE X (.Call (.Name x p) (e :: es) [] pos) (fun ρ => M.bind (fa ρ) Fn) := PEimp (pe_callG F hr hgd hg hm hk hb ha hdb he hpl) (call_f hn)
theorem dn_callG (F : FnG X.prog X.w X.K X.mg X.base k f fd ps (spN X.K n Fl)) (hr : Room k X.A) (hgd : X.A.guards = some []) (hg : Gl X x) (hm : X.mg x = some (.ref f)) (hk : PySem.W.keepIn X.K (.ref f) = true) (hb : Binds X.K fd ps []) (ha : DA X (e :: es) fa) (hn : ArN fa n)
    (hdb : (x == ("__debug__" : Str)) = false := by decide) (he : starEach (e :: es) X.env = (false, eval e X.env) :: starEach es X.env := by rfl) (hpl : (backTo pos (starEach es X.env)).any (·.1) = false := by rfl) :
    DN X (.Call (.Name x p) (e :: es) [] pos) (fun ρ => M.bind (fa ρ) Fl) := PEimp (pe_callG F hr hgd hg hm hk hb ha hdb he hpl) (callN_f hn)
end
/-! ### repr, and _law_alike -/
section
variable {X : Cx}
theorem call_reprD (hg : X.A.guards = some []) (hu : X.A.units + 70 < cLine) : CallR X (.builtin "repr") (fun xs H Q => ∃ x d, xs = [x] ∧ Dp X.K H x d ∧ d.showable = true ∧ SeqAt.shaped d = true ∧ d.shown.length ≤ sizeLine ∧ Q (.str d.shown) H) := by
  intro pins s σ H xs us Q I r h
  obtain ⟨x, d, rfl, hd, h1, h2, h3, q⟩ := h
  obtain ⟨u, rfl, ru⟩ := vals1 r
  obtain ⟨as, rd⟩ := Dp.reads I d x u hd ru
  have h2' : (d.canLay0 && decide (d.depth ≤ 64)) = true := h2
  simp only [Bool.and_eq_true, decide_eq_true_eq] at h2'
  cases hd with
  | non => cases ru; exact PySem.P.repr_of_none ⟨.str _, H, I.tok _, ⟨_, rfl⟩, q⟩
  | bl b => cases ru; exact PySem.P.repr_of_bool ⟨.str _, H, I.tok _, ⟨_, rfl⟩, q⟩
  | int i => obtain ⟨t, rfl⟩ := ru; exact PySem.P.repr_of_int (by simpa [PyData.showable] using h1) ⟨.str _, H, I.tok _, ⟨_, rfl⟩, q⟩
  | str z => obtain ⟨t, rfl⟩ := ru; exact PySem.P.repr_of_str ⟨.str _, H, I.tok _, ⟨_, rfl⟩, q⟩ h3
  | lst _ _ =>
    cases ru
    exact repr_of_reads' rd h1 (PyData.noDict_hsm (PyData.hasDict_of_canLay _ h2'.1)) hg (by omega) (fun _ _ e => e) (fun h' t tk hk => ⟨.str _, H, I.kept hk, ⟨_, rfl⟩, q⟩) h3
  | tup _ _ =>
    cases ru
    exact repr_of_reads' rd h1 (PyData.noDict_hsm (PyData.hasDict_of_canLay _ h2'.1)) hg (by omega) (fun _ _ e => e) (fun h' t tk hk => ⟨.str _, H, I.kept hk, ⟨_, rfl⟩, q⟩) h3
end
end DL
set_option Elab.async false
set_option maxRecDepth 100000
set_option autoImplicit false
set_option linter.unusedVariables false
set_option maxHeartbeats 4000000
namespace DL
open PySem L2 PySem.Spec PyProof.Rows
/-! ### repr(x) of data -/
def okA (d : D) : Bool := match toPy d with
  | some e => e.showable && SeqAt.shaped e && decide (e.shown.length ≤ sizeLine)
  | none => false
def reprF : List D → M D
  | [x] => match toPy x with
    | some e => M.guard (e.showable && SeqAt.shaped e && decide (e.shown.length ≤ sizeLine)) (M.ret (.str e.shown.cps.toList))
    | none => M.fail
  | _ => M.fail
theorem snd_repr {X : Cx} : SndC X.K (fun xs H Q => ∃ x d, xs = [x] ∧ Dp X.K H x d ∧ d.showable = true ∧ SeqAt.shaped d = true ∧ d.shown.length ≤ sizeLine ∧ Q (.str d.shown) H) reprF := by
  intro G H b vs ds d b' Q r fz ob e q
  unfold reprF at e
  split at e
  · rename_i x
    obtain ⟨v, rfl, r1⟩ := r.one
    cases e1 : toPy x with
    | none => rw [e1] at e; cases e
    | some p =>
      rw [e1] at e
      obtain ⟨c, e⟩ := M.guard_some e
      cases e
      simp only [Bool.and_eq_true, decide_eq_true_eq] at c
      refine ⟨v, p, rfl, (r1.mono fz).dp e1, c.1.1, c.1.2, c.2, ?_⟩
      have h := q (.str ⟨p.shown.cps.toList.toArray⟩) G H (Nxt.refl fz ob) (.str _)
      simpa using h
  · cases e
theorem d_repr {X : Cx} {p pos : Pos} {e : Expr} {fa : Env → M (List D)} (hgd : X.A.guards = some []) (hu : X.A.units + 70 < cLine) (hg : Gl X "repr") (hm : X.mg "repr" = none) (ha : DA X [e] fa) (he : starEach [e] X.env = (false, eval e X.env) :: starEach [] X.env := by rfl) :
    DE X (.Call (.Name "repr" p) [e] [] pos) (fun ρ => M.bind (fa ρ) reprF) := d_callB (call_reprD hgd hu) snd_repr hg hm boot_repr ha (he := he)
theorem eqDeep_same {d : D} (h : okA d = true) : eqDeep false d d = M.ret (.bl true) := by
  unfold okA at h
  unfold eqDeep
  cases e : toPy d with
  | none => rw [e] at h; cases h
  | some p =>
    rw [e] at h
    simp only [Bool.and_eq_true, decide_eq_true_eq] at h
    have h2 : (p.canLay0 && decide (p.depth ≤ 64)) = true := h.1.2
    rw [Bool.and_eq_true] at h2
    show M.guard (SeqAt.shaped p && SeqAt.shaped p) (M.ret (D.bl (PyData.eqv p p))) = _
    rw [h.1.2, SeqAt.eqv_refl p h2.1]
    rfl
theorem eqD_same {d : D} (h : okA d = true) : eqD false d d = M.ret (.bl true) := by
  cases d with
  | int i => simp [eqD]
  | str i => simp [eqD]
  | bl i => simp [eqD]
  | _ => exact eqDeep_same h
theorem reprF_ok {d : D} (h : okA d = true) : ∃ x, reprF [d] = M.ret (.str x) := by
  unfold okA at h
  unfold reprF
  cases e : toPy d with
  | none => rw [e] at h; cases h
  | some p =>
    rw [e] at h
    refine ⟨p.shown.cps.toList, ?_⟩
    show (match toPy d with
      | some e => M.guard (e.showable && SeqAt.shaped e && decide (e.shown.length ≤ sizeLine)) (M.ret (D.str e.shown.cps.toList))
      | none => M.fail) = _
    rw [e]
    exact M.guard_of h
/-- what shows is short enough -/
def Okd (k w : Nat) (d : D) : Prop := ∃ e, toPy d = some e ∧ e.showable = true ∧ e.canLay0 = true ∧ e.depth ≤ k ∧ e.shown.length ≤ w
theorem Okd.ok {k w : Nat} {d : D} (h : Okd k w d) (hk : k ≤ 64) (hw : w ≤ sizeLine) : okA d = true := by
  obtain ⟨e, h1, h2, h3, h4, h5⟩ := h
  unfold okA
  rw [h1]
  show (e.showable && (e.canLay0 && decide (e.depth ≤ 64)) && decide (e.shown.length ≤ sizeLine)) = true
  rw [h2, h3, decide_eq_true (by omega : e.depth ≤ 64), decide_eq_true (by omega : e.shown.length ≤ sizeLine)]
  rfl
theorem Okd.str {x : List Nat} (h : x.all (fun c => decide (c < 1114112)) = true) : Okd 0 (10 * x.length + 8) (.str x) := by
  have h3 : PyData.canLay0 (.str ⟨x.toArray⟩) = true := by
    show (⟨x.toArray⟩ : Str).cps.all (fun c => decide (c < 0x110000)) = true
    simpa using h
  refine ⟨_, by unfold toPy; rfl, by simp [PyData.showable], h3, by simp [PyData.depth], ?_⟩
  have := PyData.shown_le 8 (Nat.le_refl _) (.str ⟨x.toArray⟩) (PyData.leavesShort_of_canLay0 8 _ h3 (by simp [PyData.intsShort]))
  have hw : PyData.weight (.str ⟨x.toArray⟩) = x.length := by simp [PyData.weight]
  rw [hw] at this
  exact this
theorem Okd.int {i : Int} (h : i.natAbs < 10 ^ 12) : Okd 0 13 (.int i) := by
  refine ⟨.int i, by unfold toPy; rfl, ?_, by simp [PyData.canLay0], by simp [PyData.depth], PyData.shown_int_le h⟩
  simp only [PyData.showable, decide_eq_true_eq]
  by_cases h0 : i.natAbs = 0
  · rw [h0]; decide
  · have : i.natAbs < 2 ^ 40 := Nat.lt_of_lt_of_le h (by decide)
    have := (Nat.log2_lt h0).mpr this
    omega
theorem Okd.bl (b : Bool) : Okd 0 5 (.bl b) := ⟨.bool b, by unfold toPy; rfl, by simp [PyData.showable], by simp [PyData.canLay0], by simp [PyData.depth], by cases b <;> decide +kernel⟩
theorem Okd.non : Okd 0 5 .non := ⟨.none, by unfold toPy; rfl, by simp [PyData.showable], by simp [PyData.canLay0], by simp [PyData.depth], by decide +kernel⟩
theorem Okd.mono {k k' w w' : Nat} {d : D} (h : Okd k w d) (hk : k ≤ k') (hw : w ≤ w') : Okd k' w' d := by
  obtain ⟨e, h1, h2, h3, h4, h5⟩ := h
  exact ⟨e, h1, h2, h3, Nat.le_trans h4 hk, Nat.le_trans h5 hw⟩
theorem Okd.all {k w : Nat} : ∀ {ds : List D}, (∀ d ∈ ds, Okd k w d) → ∃ es, toPyL ds = some es ∧ PyData.showableAll es = true ∧ PyData.canLayAll0 es = true ∧ PyData.depthAll es ≤ k ∧ ((PyData.shownAll es).map (·.length)).sum ≤ ds.length * w ∧ (PyData.shownAll es).length = ds.length
  | [], _ => ⟨[], by unfold toPyL; rfl, by simp [PyData.showableAll], by simp [PyData.canLayAll0], by simp [PyData.depthAll], by simp [PyData.shownAll], by simp [PyData.shownAll]⟩
  | d :: ds, h => by
    obtain ⟨e, h1, h2, h3, h4, h5⟩ := h d (by simp)
    obtain ⟨es, g1, g2, g3, g4, g5, g6⟩ := Okd.all (ds := ds) fun d' hd => h d' (by simp [hd])
    refine ⟨e :: es, by unfold toPyL; rw [h1, g1], by simp [PyData.showableAll, h2, g2], by simp [PyData.canLayAll0, h3, g3], by simp only [PyData.depthAll]; omega, ?_, by simp [PyData.shownAll, g6]⟩
    simp only [PyData.shownAll, List.map_cons, List.sum_cons, List.length_cons]
    rw [Nat.succ_mul]
    omega
theorem Okd.lst {k w : Nat} {ds : List D} (h : ∀ d ∈ ds, Okd k w d) : Okd (k + 1) (ds.length * (w + 2) + 3) (.lst ds) := by
  obtain ⟨es, g1, g2, g3, g4, g5, g6⟩ := Okd.all h
  refine ⟨.list es, by unfold toPy; rw [g1], by simp [PyData.showable, g2], by simp [PyData.canLay0, g3], by simp only [PyData.depth]; omega, ?_⟩
  simp only [PyData.shown]
  have := listText_len_le (PyData.shownAll es)
  rw [g6] at this
  rw [Nat.mul_add]
  omega
theorem Okd.tup {k w : Nat} {ds : List D} (h : ∀ d ∈ ds, Okd k w d) : Okd (k + 1) (ds.length * (w + 2) + 3) (.tup ds) := by
  obtain ⟨es, g1, g2, g3, g4, g5, g6⟩ := Okd.all h
  refine ⟨.tuple es, by unfold toPy; rw [g1], by simp [PyData.showable, g2], by simp [PyData.canLay0, g3], by simp only [PyData.depth]; omega, ?_⟩
  simp only [PyData.shown]
  have := tupleText_len_le (PyData.shownAll es)
  rw [g6] at this
  rw [Nat.mul_add]
  omega
/-! ### the bag's stores -/
theorem SI.bagset {K : PySem.W.Frag} {E : En} {σ : L2.St} {ρ : Env2} {G H : Hp} {g g' : Bg} (I : SI K E σ ρ G H (some g)) (h1 : g.p = g'.p) (h2 : g.q = g'.q) (h3 : g.cs = g'.cs) :
    SI K E σ ρ G (upd H g.p (.lst [.int g'.z0, .int g'.z1, .int g'.z2, .ref g'.q])) (some g') := by
  obtain ⟨o1, o2, o3⟩ := I.bag
  have eb : E.b.at = some g.p := Bs.like_at I.like
  refine ⟨fun a o h => ?_, I.g0, I.new, fun a o h hb => ?_, ⟨by rw [← h1]; exact o1, by rw [← h1, upd_same], by rw [← h2, ← h3]; exact o3⟩, ?_, I.len, I.val, ?_⟩
  · rw [upd_ne (ne_of_none h o1)]; exact I.fz a o h
  · rw [upd_ne fun z => hb (by rw [eb, z])]; exact I.keep a o h hb
  · exact Bs.like_trans I.like ⟨h1, h2, h3⟩
  · obtain ⟨fp, w⟩ := I.own
    have ne : ∀ i a, a ∈ fp i → a ≠ g.p := fun i a ha z => (w.ok i a ha).2.2.1 (by rw [z]; rfl)
    refine ⟨fp, fun i s o k1 k2 => ?_, fun i a ha => ?_, w.nd, w.dj⟩
    · obtain ⟨v, k3, k4⟩ := w.at_ i s o k1 k2
      exact ⟨v, k3, k4.mono (fun _ _ h => h) fun a ha => upd_ne (ne i a ha)⟩
    · obtain ⟨k1, k2, k3, k4⟩ := w.ok i a ha
      refine ⟨k1, k2, ?_, by rw [upd_ne (ne i a ha)]; exact k4⟩
      intro z
      apply k3
      show some g.p = some a
      rw [h1]; exact z
def putB (k : Int) (n : Int) (g : Bg) : Option Bg := if k = 0 then some { g with z0 := n } else if k = 1 then some { g with z1 := n } else if k = 2 then some { g with z2 := n } else none
theorem putB_some {k n : Int} {g g' : Bg} (h : putB k n g = some g') : g.p = g'.p ∧ g.q = g'.q ∧ g.cs = g'.cs ∧ ∃ j, ixN 4 k = some j ∧ [V.int g'.z0, .int g'.z1, .int g'.z2, .ref g'.q] = [V.int g.z0, .int g.z1, .int g.z2, .ref g.q].set j (.int n) := by
  unfold putB at h
  by_cases h0 : k = 0
  · rw [if_pos h0] at h; cases h; subst h0; exact ⟨rfl, rfl, rfl, 0, rfl, rfl⟩
  · rw [if_neg h0] at h
    by_cases h1 : k = 1
    · rw [if_pos h1] at h; cases h; subst h1; exact ⟨rfl, rfl, rfl, 1, rfl, rfl⟩
    · rw [if_neg h1] at h
      by_cases h2 : k = 2
      · rw [if_pos h2] at h; cases h; subst h2; exact ⟨rfl, rfl, rfl, 2, rfl, rfl⟩
      · rw [if_neg h2] at h; cases h
def bagPut (j : Nat) (k : Int) (d : D) (ρ : Env2) : M Out := fun b => match ρ[j]?, d, b with
  | some (some (.val (.bag p))), .int n, some g => if g.p = p then (putB k n g).map fun g' => (.nx ρ, some g') else none
  | _, _, _ => none
theorem bagPut_some {j : Nat} {k : Int} {d : D} {ρ : Env2} {b b' : Bs} {o : Out} (h : bagPut j k d ρ b = some (o, b')) : ∃ n g g', ρ[j]? = some (some (.val (.bag g.p))) ∧ d = .int n ∧ b = some g ∧ b' = some g' ∧ o = .nx ρ ∧ putB k n g = some g' := by
  unfold bagPut at h
  split at h
  · rename_i p n g e1
    by_cases hp : g.p = p
    · rw [if_pos hp] at h
      cases e : putB k n g with
      | none => rw [e] at h; cases h
      | some g' => rw [e] at h; cases h; exact ⟨n, g, g', by rw [hp]; exact e1, rfl, rfl, rfl, rfl, e⟩
    · rw [if_neg hp] at h; cases h
  · cases h
def bagSetM (j : Nat) (k : Int) (ms : List Nat) (f : Env → M D) (ρ : Env2) : M Out := M.bind (f (view ms ρ)) fun d => bagPut j k d ρ
section
variable {X : Cx} {pos : Pos}
theorem s_bagset (j : Nat) (ms : List Nat) {k : Int} {x : Str} {e : Expr} {f : Env → M D} {p1 p2 p3 : Pos} {kk : Nat} (he : DE X e f) (hN : X.N[j]? = some x := by rfl) (hv : Vis X.env.scope x := by first | exact Or.inl rfl | exact Or.inr (Or.inl rfl) | exact Or.inr (Or.inr rfl))
    (hd : (x == ("__debug__" : Str)) = false := by decide) (hcd : (x == ("__classdict__" : Str)) = false := by decide)
    (hs : swapsWithSole [.Subscript (.Name x p1) (.Constant (.int k) kk p2) p3] e pos.line X.env = pure false := by rfl) (hw : swappedStores [.Subscript (.Name x p1) (.Constant (.int k) kk p2) p3] e X.env = pure none := by rfl) :
    DS X (.Assign [.Subscript (.Name x p1) (.Constant (.int k) kk p2) p3] e pos) (bagSetM j k ms f) := by
  refine PSimp (ps_asg he (pg_sub (pe_var hN hv hd hcd) pe_int set_list) hs hw) ?_
  rintro D σ H ⟨E, ρ, G, b, o, b', I, e, q⟩
  obtain ⟨d, b1, e1, e2⟩ := M.bind_some e
  obtain ⟨n, g, g', hj, rfl, rfl, rfl, rfl, hp⟩ := bagPut_some e2
  refine ⟨_, _, b, _, _, I.rs ms, I.gp2 ms, I.gpb ms, e1, fun v G1 H1 n1 r => ?_⟩
  cases r
  have I2 := I.flat n1
  obtain ⟨v, h1, h2⟩ := I2.val j _ hj
  cases h2
  obtain ⟨l1, l2, l3, jj, hix, hset⟩ := putB_some hp
  refine ⟨_, h1, g.p, _, k, jj, rfl, rfl, I2.bag.2.1, hix, ?_⟩
  have I3 := I2.bagset l1 l2 l3
  rw [hset] at I3
  exact q _ _ _ I3
def rGetL (K : PySem.W.Frag) : V → V → Hp → VK → Prop := fun o i H Q => ∃ (p : Addr) (xs : List V) (k : Int) (v : V), o = .ref p ∧ i = .int k ∧ 0 ≤ k ∧ SqL K H p xs ∧ xs[k.toNat]? = some v ∧ Q v H
theorem get_list : PGet X (rGetL X.K) := by
  intro pins s σ H o i ov iv Q I ro ri h
  obtain ⟨p, xs, k, v, rfl, rfl, h0, hq, hx, q⟩ := h
  cases ro
  obtain ⟨t, rfl⟩ := ri
  obtain ⟨its, r, pl, hz⟩ := I.list hq
  obtain ⟨w, ew, rw'⟩ := r.get hx
  have hl : k.toNat < xs.length := (List.getElem?_eq_some_iff.mp hx).1
  have hn := line63
  exact wpAny_getItem_list pl.isList h0 (by omega) (by simpa using ew) ⟨v, H, I, rw', q⟩
def bagAugM (j : Nat) (k : Int) (ms : List Nat) (f : Env → M D) (ρ : Env2) : M Out := M.bind (f (view ms ρ)) fun d => fun b => match d, b with
  | .int n, some g => bagPut j k (.int ((if k = 0 then g.z0 else if k = 1 then g.z1 else g.z2) + n)) ρ (some g)
  | _, _ => none
/-- bag[k] += n, n a constant -/
theorem s_bagaug (j : Nat) (ms : List Nat) {k n : Int} {x : Str} {p1 p2 p3 p4 : Pos} {kk kn : Nat} (hk : k = 0 ∨ k = 1 ∨ k = 2) (hN : X.N[j]? = some x := by rfl) (hv : Vis X.env.scope x := by first | exact Or.inl rfl | exact Or.inr (Or.inl rfl) | exact Or.inr (Or.inr rfl))
    (hd : (x == ("__debug__" : Str)) = false := by decide) (hcd : (x == ("__classdict__" : Str)) = false := by decide) :
    DS X (.AugAssign (.Subscript (.Name x p1) (.Constant (.int k) kk p2) p3) .Add (.Constant (.int n) kn p4) pos) (bagAugM j k ms fun _ => M.ret (.int n)) := by
  refine PSimp (ps_augS (pe_var hN hv hd hcd) pe_int get_list pe_int ip_add set_list) ?_
  rintro D σ H ⟨E, ρ, G, b, o, b', I, e, q⟩
  obtain ⟨d, b1, e1, e2⟩ := M.bind_some e
  cases e1
  cases b with
  | none => cases e2
  | some g =>
    obtain ⟨m, g0, g', hj, e0, e3, rfl, rfl, hp⟩ := bagPut_some e2
    cases e0
    cases e3
    obtain ⟨v, h1, h2⟩ := I.val j _ hj
    cases h2
    obtain ⟨l1, l2, l3, jj, hix, hset⟩ := putB_some hp
    refine ⟨_, h1, g.p, [.int g.z0, .int g.z1, .int g.z2, .ref g.q], k, .int (if k = 0 then g.z0 else if k = 1 then g.z1 else g.z2), rfl, rfl, ?_, SqL.of I.bag.2.1, ?_, _, n, rfl, rfl, g.p, _, k, jj, rfl, rfl, I.bag.2.1, hix, ?_⟩
    · rcases hk with rfl | rfl | rfl <;> decide
    · rcases hk with rfl | rfl | rfl <;> rfl
    · have I3 := I.bagset l1 l2 l3
      rw [hset] at I3
      exact q _ _ _ I3
end
/-! ### totally correct, with the bag at p -/
def okB (p : Addr) (g : Bg) : Prop := g.p = p ∧ 0 ≤ g.z2
def Tot {α : Type} (p : Addr) (m : M α) (P : α → Prop) : Prop := ∀ g, okB p g → ∃ a g', m (some g) = some (a, some g') ∧ okB p g' ∧ P a
theorem Tot.ret {α : Type} {p : Addr} {a : α} {P : α → Prop} (h : P a) : Tot p (M.ret a) P := fun g hg => ⟨a, g, rfl, hg, h⟩
theorem Tot.bind {α β : Type} {p : Addr} {m : M α} {f : α → M β} {P : α → Prop} {Q : β → Prop} (h : Tot p m P) (k : ∀ a, P a → Tot p (f a) Q) : Tot p (M.bind m f) Q := fun g hg => by
  obtain ⟨a, g1, e1, h1, p1⟩ := h g hg
  obtain ⟨c, g2, e2, h2, p2⟩ := k a p1 g1 h1
  exact ⟨c, g2, by rw [M.bind_eq e1]; exact e2, h2, p2⟩
theorem Tot.mono {α : Type} {p : Addr} {m : M α} {P Q : α → Prop} (h : Tot p m P) (k : ∀ a, P a → Q a) : Tot p m Q := fun g hg => by
  obtain ⟨a, g1, e1, h1, p1⟩ := h g hg
  exact ⟨a, g1, e1, h1, k a p1⟩
end DL
set_option Elab.async false
set_option maxRecDepth 100000
set_option autoImplicit false
set_option linter.unusedVariables false
set_option maxHeartbeats 4000000
namespace DL
open PySem L2 PySem.Spec PyProof.Rows
/-! ### the law itself -/
def spLaw (K : PySem.W.Frag) : Sp := fun vs H Q _ => ∃ (a : Addr) (ns : List Int), vs = [.ref a] ∧ SqL K H a (ns.map V.int) ∧ ns.length ≤ 63 ∧ ∀ H', Q (.bl true) H'
def env0 (n : Nat) (p : Addr) : Env2 := none :: some (.val (.bag p)) :: List.replicate n none
theorem ints_of {K : PySem.W.Frag} {G : Hp} : ∀ {vs : List V} {cs : List Int}, RpL K G vs (cs.map D.int) → vs = cs.map V.int
  | _, [], .nil => rfl
  | _, c :: cs, .cons a r => by
    cases a
    rw [ints_of (cs := cs) r]
    rfl
theorem law_run {K : PySem.W.Frag} {N : List Str} {n : Nat} {FB : List D → M (List D)} {Fs : Env2 → M Out} {vs : List V} {H : Hp} {Q : VK} {E : XK} (hN : N.length = n + 2)
    (hbag : ∀ ns : List Int, ns.length ≤ 63 → ∃ cs : List Int, FB [.scr ns] none = some ([.int 0, .int 1234567891, .int 0, .lst (cs.map D.int)], none))
    (hmath : ∀ (p : Addr), Tot p (Fs (env0 n p)) fun o => o = .rt (.bl true))
    (h : spLaw K vs H Q E) : tSeq (tAsg (tCall (spN K 1 FB) [] E0 (tFA K fun ρ => M.bind (rdEnv 0 ρ) fun x => M.bind (M.ret []) fun xs => M.ret (x :: xs))) (gName 1)) (tS K Fs) { nx := fun _ H' => Q .non H', rt := Q } (L2.start N vs) H := by
  obtain ⟨a, ns, rfl, hs, hl, q⟩ := h
  obtain ⟨cs, hb⟩ := hbag ns hl
  have same : Same H H := fun _ _ h => h
  refine ⟨[some (.scr ns)], H, none, [.scr ns], none, ⟨?_, fun i d hi => ?_⟩, same, trivial, rfl, fun vs G' H' n1 r => ?_⟩
  · unfold L2.start; simp
  · cases i with
    | zero => cases hi; exact ⟨.ref a, rfl, .scr hs⟩
    | succ i => cases hi
  · refine ⟨G', none, [.scr ns], _, none, by rw [List.append_nil]; exact r, rfl, n1.fz, trivial, hb, fun p ws G2 H2 n2 hp gp hh r2 => ?_⟩
    have np : H p = none := n1.free hp
    cases r2 with
    | cons a1 r2 =>
    cases a1
    cases r2 with
    | cons a2 r2 =>
    cases a2
    cases r2 with
    | cons a3 r2 =>
    cases a3
    cases r2 with
    | cons a4 r2 =>
    cases r2
    cases a4 with
    | @lst qq vs4 _ hq rq =>
      have ev := ints_of rq
      subst ev
      obtain ⟨o, g', e, _, ho⟩ := hmath p ⟨p, qq, 0, 1234567891, 0, cs⟩ ⟨rfl, Int.le_refl 0⟩
      subst ho
      refine ⟨⟨G2, H2, some ⟨p, qq, 0, 1234567891, 0, cs⟩⟩, env0 n p, G2, some ⟨p, qq, 0, 1234567891, 0, cs⟩, .rt (.bl true), some g', ?_, e, ?_⟩
      · have slot : ∀ (i : Nat) (s : Slot), (env0 n p)[i]? = some (some s) → i = 1 ∧ s = .val (.bag p) := fun i s h => by
          unfold env0 at h
          match i with
          | 0 => cases h
          | 1 => cases h; exact ⟨rfl, rfl⟩
          | i + 2 =>
            simp only [List.getElem?_cons_succ] at h
            by_cases hi : i < n
            · rw [List.getElem?_replicate_of_lt hi] at h; cases h
            · rw [List.getElem?_eq_none (by simpa using hi)] at h; cases h
        refine ⟨n2.fz, fun _ _ h => h, fun _ _ _ h => h, fun _ _ h _ => h, ⟨gp, hh, hq⟩, ⟨rfl, rfl, rfl⟩, ?_, fun i d h => ?_, fun _ => [], fun i s o h1 h2 => ?_, fun i a ha => (nomatch ha), fun i => List.nodup_nil, fun i j a ha => (nomatch ha)⟩
        · unfold env0 L2.start
          simp [hN]
        · obtain ⟨rfl, h2⟩ := slot i _ h
          cases h2
          refine ⟨.ref p, ?_, .bag p⟩
          unfold L2.start
          rw [hN]
          simp
        · obtain ⟨_, h3⟩ := slot i _ h1
          rw [h3] at h2
          cases h2
      · intro v G3 H3 n3 rv
        cases rv
        exact q H3
/-! ### the end of a law -/
theorem law_callG {P : Program} {w : World} {K : PySem.W.Frag} {mg mb : Str → Option Value} {k : Nat} {fa a : Addr} {fd : FuncData} {x : Str} {s1 : Shared} {vs : List Value} {ns : List Int}
    (KX : K.In s1.heap) (hns : s1.heap.Ns mainGlobals mg) (hb : s1.heap.Ns builtinsNs mb) (hbb : ∀ x : Str, x ≠ "__name__" → mb x = bootBuiltins x) (hlim : s1.heap.NoLimit) (hg : s1.gens = #[])
    (ha : s1.heap.get? a = some { cls := .type "list", data := .seq vs.toArray }) (hi : IntsAre vs ns) (hl : ns.length ≤ 63) (hr : Room k callerA)
    (F : ∀ base : Heap, K.In base → base.Ns mainGlobals mg → FnG P w K mg base k fa fd [x] (spLaw K)) (hbind : ∀ (s : Shared) (u : Value), BindsTo s fd ⟨[u], []⟩ [(x, u)]) :
    codeAny (model P w) callerA (.call (.ref fa) ⟨[.ref a], []⟩) (fun r s' => r = .ok (.ret (.bool true)) ∧ OldK s1.heap s'.heap ∧ s'.os = s1.os ∧ AllBare s'.gens) s1 := by
  have rv := vals_ints hi
  have hsz : ns.length ≤ sizeLine := Nat.le_trans hl (by decide)
  have main : ∀ H : Hp, Only H → SqL K H a (ns.map V.int) → HOk P w H s1.heap → (∀ b u, H b = some u → b = a ∧ K.lookup a = none) →
      codeAny (model P w) callerA (.call (.ref fa) ⟨[.ref a], []⟩) (fun r s' => r = .ok (.ret (.bool true)) ∧ OldK s1.heap s'.heap ∧ s'.os = s1.os ∧ AllBare s'.gens) s1 := by
    intro H hO hS hok hA
    have dict_free : ∀ {b : Addr} {o : Obj} {es : Array DictEntry} {ep : Nat}, s1.heap.get? b = some o → o.data = .dict es ep → H b = none := by
      intro b o es ep e d
      cases q : H b with
      | none => rfl
      | some u =>
        obtain ⟨rfl, _⟩ := hA b u q
        rw [ha] at e
        cases e
        cases (show Data.seq vs.toArray _ = Data.dict es ep from d)
    have nsK : ∀ {b : Addr} {m : Str → Option Value}, s1.heap.Ns b m → (hidT s1.heap H).Ns b m := by
      rintro b m ⟨o, es, ep, e, d, r⟩
      exact ⟨o, es, ep, hidT_get e (dict_free e d), d, r⟩
    have hKb : K.In (hidT s1.heap H) := by
      intro b o e
      refine hidT_get (KX b o e) ?_
      cases q : H b with
      | none => rfl
      | some u =>
        obtain ⟨rfl, h2⟩ := hA b u q
        rw [h2] at e; cases e
    have lim : (hidT s1.heap H).NoLimit := by
      obtain ⟨mc, h1, h2⟩ := hlim
      exact ⟨mc, nsK h1, h2⟩
    have e0 : Env0 P w K mg (hidT s1.heap H) callerA [] s1 H :=
      ⟨rfl, ⟨hKb, nsK hns, ⟨mb, nsK hb, hbb⟩, lim⟩, fun b o e => of_hidT e, Nat.le_of_eq (hidT_size _ _), trivial, fun b hb => (nomatch (show b ∈ ([] : List Addr) from hb)), hok, .of_eq hg⟩
    have fin := (F _ hKb (nsK hns)).run callerA [] s1 H ⟨[.ref a], []⟩ [.ref a] [.ref a] (fun v _ => v = .bl true) hr rfl e0 (hbind s1 (.ref a)) (.cons rfl .nil) ⟨a, ns, rfl, hS, hl, fun _ => rfl⟩
    refine codeAny_mono fin fun r s' h => ?_
    cases r with
    | error e => exact False.elim h
    | ok fl =>
      cases fl with
      | next => exact False.elim h
      | brk => exact False.elim h
      | cont => exact False.elim h
      | ret u =>
        obtain ⟨v, H', os, bare, un, hok', r', q⟩ := h
        have q : v = .bl true := q
        subst q
        cases (show u = Value.bool true from r')
        refine ⟨rfl, OldK.of_keep fun b o e => ?_, os, bare⟩
        rcases hO b with z | ⟨ob, xs, z⟩
        · exact un.keep b o e z (by intro h; cases h) (by intro h; cases h)
        · have e1 := (hok b _ z).1
          have e2 := (hok' b _ (un.frzs b ob _ z)).1
          rw [e] at e1
          cases e1
          exact e2
  cases hk : K.lookup a with
  | some o =>
    have e := KX a o hk
    rw [ha] at e
    cases e
    refine main (fun _ => none) (fun _ => .inl rfl) (.inr ⟨_, vs.toArray, _, hk, rfl, rfl, rfl, ?_, by simpa using rv⟩) (fun b u z => nomatch z) (fun b u z => nomatch z)
    rw [List.size_toArray, hi.length]; exact hsz
  | none =>
    let ob : Obj := { cls := .type "list", data := .seq vs.toArray }
    refine main (fun b => if b = a then some (.frz ob (.lst (ns.map V.int))) else none) (fun b => ?_) (.inl (.inr ⟨ob, if_pos rfl⟩)) (fun b u z => ?_) (fun b u z => ?_)
    · by_cases hb : b = a
      · exact .inr ⟨_, _, if_pos hb⟩
      · exact .inl (if_neg hb)
    · replace z : (if b = a then some (HO.frz ob (.lst (ns.map V.int))) else none) = some u := z
      by_cases hb : b = a
      · rw [if_pos hb] at z
        cases z
        subst hb
        exact ⟨ha, by rw [List.length_map]; exact hsz, vs, _, rv, ha⟩
      · rw [if_neg hb] at z; cases z
    · replace z : (if b = a then some (HO.frz ob (.lst (ns.map V.int))) else none) = some u := z
      by_cases hb : b = a
      · exact ⟨hb, hk⟩
      · rw [if_neg hb] at z; cases z
theorem walk_g {l : PySem.W.OpenLaw} {k : Nat} {q : Program} {loose : List Str} {XP : (Str → Option Value) → Heap → Prop} {YP : World → Heap → Prop} {d : DefRec} {K : Params → PySem.W.Frag} {x : Str}
    (hn : l.most = some 63) (hdf : d.params.defaults = []) (hr : Room k callerA) (hY : ∀ (w : World) (h : Heap), YP w h → (K w.params).In h)
    (F : ∀ (w : World) (mg : Str → Option Value) (fa : Addr) (h : Heap), (K w.params).In h → h.Ns mainGlobals mg → mg d.name = some (.ref fa) →
      ∃ fd : FuncData, (∀ (s : Shared) (u : Value), BindsTo s fd ⟨[u], []⟩ [(x, u)]) ∧ ∀ base : Heap, (K w.params).In base → base.Ns mainGlobals mg → FnG l.prog w (K w.params) mg base k fa fd [x] (spLaw (K w.params))) :
    PySem.W.WalkO q loose XP YP l.row.toRowW d [] (fun f vs => PySem.call f vs) := by
  refine Att.attach_call hn hdf fun w s0 s1 mg mb fa o pm cd doc a vs ns G Y ho hd hcd hmg hobj hints hlen hg => ?_
  have KX := hY w _ Y
  obtain ⟨fd, hb, hF⟩ := F w mg fa _ KX G.T.g hmg
  exact law_callG KX G.T.g G.T.b G.T.builtins G.T.nolimit hg hobj hints hlen hr hF hb
end DL
set_option Elab.async false
set_option maxRecDepth 100000
set_option autoImplicit false
set_option linter.unusedVariables false
set_option maxHeartbeats 4000000
namespace DL
open PySem L2 PySem.Spec PyProof.Rows
/-! ### short words for the printed functions -/
def e2 (h : D → D → M D) (f g : Env → M D) : Env → M D := fun ρ => M.bind (f ρ) fun x => M.bind (g ρ) fun y => h x y
def t2 (h : D → D → M D) (f g : Env → M D) : Env → M Bool := fun ρ => M.bind (f ρ) fun x => M.bind (g ρ) fun y => M.bind (h x y) asB
def e1 (h : D → M D) (f : Env → M D) : Env → M D := fun ρ => M.bind (f ρ) h
def cst (d : D) : Env → M D := fun _ => M.ret d
def aN : Env → M (List D) := fun _ => M.ret []
def aC (f : Env → M D) (g : Env → M (List D)) : Env → M (List D) := fun ρ => M.bind (f ρ) fun x => M.bind (g ρ) fun xs => M.ret (x :: xs)
def eCall (h : List D → M D) (f : Env → M (List D)) : Env → M D := fun ρ => M.bind (f ρ) h
def nCall (h : List D → M (List D)) (f : Env → M (List D)) : Env → M (List D) := fun ρ => M.bind (f ρ) h
def eN (f : Env → M (List D)) : Env → M D := fun ρ => M.bind (f ρ) fun xs => M.ret (.lst xs)
def nLst (g : Env → M (List D)) : Env → M (List D) := fun ρ => M.bind (g ρ) fun xs => M.guard (szL xs) (M.ret xs)
def eTup (g : Env → M (List D)) : Env → M D := fun ρ => M.bind (g ρ) fun xs => M.guard (szL xs) (M.ret (.tup xs))
def tVal (f : Env → M D) : Env → M Bool := fun ρ => M.bind (f ρ) truD
def tNotM (f : Env → M Bool) : Env → M Bool := fun ρ => M.bind (f ρ) fun k => M.ret (!k)
def tAndM (f g : Env → M Bool) : Env → M Bool := fun ρ => M.bind (f ρ) fun k => if k = true then g ρ else M.ret false
def tOrM (f g : Env → M Bool) : Env → M Bool := fun ρ => M.bind (f ρ) fun k => if k = true then M.ret true else g ρ
def eAnd (f g : Env → M D) : Env → M D := fun ρ => M.bind (f ρ) fun x => M.bind (asB x) fun k => if k = true then g ρ else M.ret (.bl false)
def eOr (f g : Env → M D) : Env → M D := fun ρ => M.bind (f ρ) fun x => M.bind (asB x) fun k => if k = true then M.ret (.bl true) else g ρ
def eNot (f : Env → M D) : Env → M D := fun ρ => M.bind (f ρ) fun x => M.bind (asB x) fun k => M.ret (.bl (!k))
def eIf (t : Env → M Bool) (f g : Env → M D) : Env → M D := fun ρ => M.bind (t ρ) fun k => if k = true then f ρ else g ρ
def iAny (f : Env → M D) : Env → M (List D) := fun ρ => M.bind (f ρ) itemsD
def iRg1 (f : Env → M (List D)) : Env → M (List D) := fun ρ => M.bind (f ρ) rng1
def iRg2 (f : Env → M (List D)) : Env → M (List D) := fun ρ => M.bind (f ρ) rng2
def nLc (vs : List Nat) (gi : Env → M (List D)) (bs : D → Option (List (Nat × D))) (c : Env → M Bool) (e : Env → M D) : Env → M (List D) := fun ρ => M.bind (gi ρ) fun xs => M.bind (compM bs c e (wipeD ρ vs) xs) fun ys => M.guard (szL ys) (M.ret ys)
def cT : Env → M Bool := fun _ => M.ret true
def oN : Env → M (Option Int) := fun _ => M.ret none
def oS (f : Env → M D) : Env → M (Option Int) := fun ρ => M.bind (f ρ) asI
def eSl (f : Env → M D) (fl fh : Env → M (Option Int)) : Env → M D := fun ρ => M.bind (f ρ) fun x => M.bind (fl ρ) fun l => M.bind (fh ρ) fun h => slD l h x
def sNil : Env2 → M Out := fun ρ => M.ret (.nx ρ)
/-! ### defs as they stand -/
structure FnAt (K : PySem.W.Frag) (mg : Str → Option Value) (x : Str) (st : Stmt) (ps : List Str) (f : Addr) (fd : FuncData) : Prop where
  fn : Fun K x x st f fd
  bd : Binds K fd ps []
  gl : mg x = some (.ref f)
section
variable {X : Cx} {pos : Pos}
/-- y = [..], y a local -/
theorem s_setLc (i : Nat) (ms : List Nat) {y : Str} {py : Pos} {elt tg iter : Expr} {ifs : List Expr} {scope : Scope} {own : List (Str × Nat)} {cpos : Pos} {gi : Env → M (List D)} {g : TG} {bs : D → Option (List (Nat × D))} {is : List Nat} {c : Env → M Bool} {e : Env → M D}
    (hc : X.calm = true) (hN : X.N.Nodup) (hy : X.N[i]? = some y) (hyl : X.env.scope.names.lookup y = some .local)
    (hsw : swapsWith (.ListComp elt [⟨tg, iter, ifs, 0⟩] scope cpos) (some (.Name y py)) pos.line X.env = pure true) (hi : DI X tg iter gi) (ok : BlkOk X.N X.env.scope scope own) (ht : TgOk X.K g bs is) (his : is.all (fun i => (own.map (·.2)).contains i) = true)
    (hg : ∀ (s : Shared) (H : Hp) (C : Addr) (cl : List (Str × Addr)) (fp : List Addr), PG (X.blk s H scope (compEnvC scope cl C X.env) fp) tg g) (htt : ∀ (s : Shared) (H : Hp) (C : Addr) (cl : List (Str × Addr)) (fp : List Addr), DTs (X.blk s H scope (compEnvC scope cl C X.env) fp) ifs c)
    (he : ∀ (s : Shared) (H : Hp) (C : Addr) (cl : List (Str × Addr)) (fp : List Addr), DE (X.blk s H scope (compEnvC scope cl C X.env) fp) elt e) (hs : ∀ x, foldedSetIterable iter X.env x = pure x := by intro _; rfl) :
    DS X (.Assign [.Name y py] (.ListComp elt [⟨tg, iter, ifs, 0⟩] scope cpos) pos) (setNM i ms (nLc (own.map (·.2)) gi bs c e)) := by
  refine PSimp (ps_setLc (te := tF X.K e) (tt := tFT X.K c) hc hN hy hyl hsw hi ok hg htt he hs) ?_
  rintro D σ H ⟨E, ρ, G, b, o, b', I, e, q⟩
  obtain ⟨xs, b1, e1, e2⟩ := M.bind_some e
  cases e2
  refine lc_f ht (fun i hi => by have := List.all_eq_true.mp his i hi; simpa using this) σ H _ ⟨_, _, b, xs, b', I.rs ms, I.gp2 ms, I.gpb ms, e1, fun p vs G1 H1 n1 hp gn hh r => ?_⟩
  obtain ⟨G2, I2⟩ := I.newOwn n1 i hp gn hh r
  exact q _ G2 H1 I2
/-- a, b = x, y (two locals) -/
def parM (i j : Nat) (ms : List Nat) (f : Env → M (List D)) (ρ : Env2) : M Out := M.bind (f (view ms ρ)) fun ds => match ds with
  | [d, e] => M.ret (.nx (((keepIf (d.flat && e.flat) ms ρ).set i (some (.val d))).set j (some (.val e))))
  | _ => M.fail
theorem s_par (i j : Nat) (ms : List Nat) {x y : Str} {a b : Expr} {f : Env → M (List D)} {px py pt : Pos} {kt k2 pt2} (hc : X.calm = true) (hN : X.N.Nodup) (hi : X.N[i]? = some x) (hj : X.N[j]? = some y) (hij : i ≠ j)
    (hx : X.env.scope.names.lookup x = some .local) (hy : X.env.scope.names.lookup y = some .local) (ha : DA X [a, b] f)
    (hw : swappedStores [.Tuple [.Name x px, .Name y py] kt pt] (.Tuple [a, b] k2 pt2) X.env = pure (some [x, y]) := by rfl)
    (hs : swapsWithSole [.Tuple [.Name x px, .Name y py] kt pt] (.Tuple [a, b] k2 pt2) pos.line X.env = pure false := by rfl) :
    DS X (.Assign [.Tuple [.Name x px, .Name y py] kt pt] (.Tuple [a, b] k2 pt2) pos) (parM i j ms f) := by
  refine PSimp (ps_par hc hN hi hj hij hx hy ha hw hs) ?_
  rintro D σ H ⟨E, ρ, G, b, o, b', I, e, q⟩
  obtain ⟨ds, b1, e1, e2⟩ := M.bind_some e
  refine ⟨_, _, b, ds, b1, I.rs ms, I.gp2 ms, I.gpb ms, e1, fun vs G1 H1 n1 r => ?_⟩
  clear e
  match ds, e2, r with
  | [d, d2], e2, .cons r1 (.cons r2 .nil) =>
    cases e2
    refine ⟨_, _, rfl, ?_⟩
    unfold keepIf at q
    cases hf : (d.flat && d2.flat) with
    | true =>
      rw [hf] at q
      rw [Bool.and_eq_true] at hf
      exact q _ G H1 (((I.flat n1).set (r1.flat_any hf.1)).set (r2.flat_any hf.2))
    | false =>
      rw [hf] at q
      exact q _ G1 H1 (((I.frz n1).set r1).set r2)
/-- x += e -/
def augD (f : D → D → M D) (i : Nat) (ms : List Nat) (g : Env → M D) (ρ : Env2) : M Out := match ρ[i]? with
  | some (some (.val x)) => M.bind (g (view ms ρ)) fun y => M.bind (f x y) fun z => M.guard (y.flat && z.flat) (M.ret (.nx (ρ.set i (some (.val z)))))
  | _ => M.fail
theorem ip_addS : PIp X .Add (fun x y H Q => rI0 (fun i j => .int (i + j)) x y H Q ∨ (∃ i j, x = .str i ∧ y = .str j ∧ i.length + j.length ≤ sizeLine ∧ Q (.str (i ++ j)) H)) := by
  intro pins s σ H x y v u Q I rx ry h
  exact (iop_add.or iop_add_str) pins s σ H x y v u Q I rx ry h
def addF : D → D → M D
  | .int i, .int j => M.ret (.int (i + j))
  | .str x, .str y => M.guard (szS (x.length + y.length)) (M.ret (.str (x ++ y)))
  | _, _ => M.fail
theorem s_augAdd (i : Nat) (ms : List Nat) {x : Str} {e : Expr} {g : Env → M D} {pos' : Pos} (hN : X.N.Nodup) (hi : X.N[i]? = some x) (hx : Loc X.env.scope x) (he : DE X e g) (hf : X.fn x = true ∨ X.env.scope.names.lookup x = some .local := by first | exact .inl rfl | exact .inr rfl | assumption) :
    DS X (.AugAssign (.Name x pos') .Add e pos) (augD addF i ms g) := by
  refine PSimp (ps_aug hN hi hx he ip_addS hf) ?_
  rintro D σ H ⟨E, ρ, G, b, o, b', I, e, q⟩
  unfold augD at e
  cases ej : ρ[i]? with
  | none => rw [ej] at e; cases e
  | some s =>
    cases s with
    | none => rw [ej] at e; cases e
    | some s =>
      cases s with
      | own xs => rw [ej] at e; cases e
      | tr o => rw [ej] at e; cases e
      | val x =>
        rw [ej] at e
        obtain ⟨y, b1, e1, e⟩ := M.bind_some e
        obtain ⟨z, b2, e2, e⟩ := M.bind_some e
        obtain ⟨c, e⟩ := M.guard_some e
        cases e
        rw [Bool.and_eq_true] at c
        obtain ⟨v, h1, h2⟩ := I.val i x ej
        refine ⟨v, h1, _, _, b, y, b1, I.rs ms, I.gp2 ms, I.gpb ms, e1, fun v2 G1 H1 n1 r => ?_⟩
        have I1 := I.flat n1
        cases h2 with
        | int k =>
          cases r with
          | int m => cases e2; exact .inl ⟨k, m, rfl, rfl, q _ G H1 (I1.set (.int _))⟩
          | _ => cases e2
        | str k =>
          cases r with
          | str m =>
            obtain ⟨c2, e2⟩ := M.guard_some e2
            cases e2
            refine .inr ⟨_, _, rfl, rfl, by rw [szStr, szStr]; exact of_decide_eq_true c2, ?_⟩
            have e3 : ((⟨k.toArray⟩ : Str) ++ (⟨m.toArray⟩ : Str)) = ⟨(k ++ m).toArray⟩ := by
              show (⟨k.toArray ++ m.toArray⟩ : Str) = _
              simp
            rw [e3]
            exact q _ G H1 (I1.set (.str _))
          | _ => cases e2
        | _ => cases r <;> cases e2
/-- targets = e, a tuple taken apart -/
def unpM (bs : D → Option (List (Nat × D))) (ms : List Nat) (f : Env → M D) (ρ : Env2) : M Out := M.bind (f (view ms ρ)) fun d => match bs d with
  | some l => M.ret (.nx (setAll2 (keepIf d.flat ms ρ) l))
  | none => M.fail
theorem s_unp {bs : D → Option (List (Nat × D))} (ms : List Nat) {tg e : Expr} {f : Env → M D} {g : TG} {is : List Nat} (he : DE X e f) (hg : PG X tg g) (ht : TgOk X.K g bs is) (hs : swapsWithSole [tg] e pos.line X.env = pure false := by rfl) (hw : swappedStores [tg] e X.env = pure none := by rfl) (h1 : (assignEach [tg] X.env).map (·.2) = [assign tg X.env] := by rfl) :
    DS X (.Assign [tg] e pos) (unpM bs ms f) := by
  refine PSimp (ps_asg he hg hs hw h1) ?_
  rintro D σ H ⟨E, ρ, G, b, o, b', I, e, q⟩
  obtain ⟨d, b1, e1, e2⟩ := M.bind_some e
  cases eb : bs d with
  | none => rw [eb] at e2; cases e2
  | some l =>
    rw [eb] at e2
    cases e2
    refine ⟨_, _, b, d, b', I.rs ms, I.gp2 ms, I.gpb ms, e1, fun v G1 H1 n1 r => ?_⟩
    obtain ⟨G2, I2, r2⟩ := I.after n1 r
    obtain ⟨lv, pl, il, gq⟩ := ht G2 v d l r2 eb
    exact gq H1 σ _ I2.fz (q _ G2 H1 (SI.setAll pl I2))
end
end DL
set_option Elab.async false
set_option maxRecDepth 100000
set_option autoImplicit false
set_option linter.unusedVariables false
set_option maxHeartbeats 4000000
namespace DL
open PySem L2
/-! ### evaluating functions: one lemma an operation -/
theorem view_eq (ms : List Nat) (ρ : Env2) : view ms ρ = viewAt ms 0 ρ := rfl
theorem viewAt_nil (ms : List Nat) (i : Nat) : viewAt ms i [] = [] := rfl
theorem viewAt_cons (ms : List Nat) (i : Nat) (s : Option Slot) (r : Env2) : viewAt ms i (s :: r) = (if ms.contains i then s.map Slot.see else none) :: viewAt ms (i + 1) r := rfl
theorem frz_eq (ms : List Nat) (ρ : Env2) : frz ms ρ = frzAt ms 0 ρ := rfl
theorem frzAt_nil (ms : List Nat) (i : Nat) : frzAt ms i [] = [] := rfl
theorem frzAt_cons (ms : List Nat) (i : Nat) (s : Option Slot) (r : Env2) : frzAt ms i (s :: r) = (if ms.contains i then s.map (fun s => Slot.val s.see) else s) :: frzAt ms (i + 1) r := rfl
theorem see_val (d : D) : (Slot.val d).see = d := rfl
theorem see_own (xs : List D) : (Slot.own xs).see = .lst xs := rfl
theorem keepIf_t (ms : List Nat) (ρ : Env2) : keepIf true ms ρ = ρ := rfl
theorem keepIf_f (ms : List Nat) (ρ : Env2) : keepIf false ms ρ = frz ms ρ := rfl
theorem flat_int (i : Int) : (D.int i).flat = true := rfl
theorem flat_str (i : List Nat) : (D.str i).flat = true := rfl
theorem flat_bl (i : Bool) : (D.bl i).flat = true := rfl
theorem flat_non : D.non.flat = true := rfl
theorem flat_bag (p : Addr) : (D.bag p).flat = true := rfl
theorem flat_lst (i : List D) : (D.lst i).flat = false := rfl
theorem flat_tup (i : List D) : (D.tup i).flat = false := rfl
theorem flat_obj (C : Nat) (i : List D) : (D.obj C i).flat = false := rfl
theorem rd_some {i : Nat} {ρ : Env} {d : D} (h : ρ[i]? = some (some d)) : rdEnv i ρ = M.ret d := by unfold rdEnv; rw [h]
theorem rd_0 (d : D) (r : Env) : rdEnv 0 (some d :: r) = M.ret d := rfl
theorem rd_s (i : Nat) (o : Option D) (r : Env) : rdEnv (i + 1) (o :: r) = rdEnv i r := rfl
theorem rd_1 (o : Option D) (r : Env) : rdEnv 1 (o :: r) = rdEnv 0 r := rfl
theorem rd_2 (o : Option D) (r : Env) : rdEnv 2 (o :: r) = rdEnv 1 r := rfl
theorem rd_3 (o : Option D) (r : Env) : rdEnv 3 (o :: r) = rdEnv 2 r := rfl
theorem rd_4 (o : Option D) (r : Env) : rdEnv 4 (o :: r) = rdEnv 3 r := rfl
theorem rd_5 (o : Option D) (r : Env) : rdEnv 5 (o :: r) = rdEnv 4 r := rfl
theorem rd_6 (o : Option D) (r : Env) : rdEnv 6 (o :: r) = rdEnv 5 r := rfl
theorem rd_7 (o : Option D) (r : Env) : rdEnv 7 (o :: r) = rdEnv 6 r := rfl
theorem rd_8 (o : Option D) (r : Env) : rdEnv 8 (o :: r) = rdEnv 7 r := rfl
theorem rd_9 (o : Option D) (r : Env) : rdEnv 9 (o :: r) = rdEnv 8 r := rfl
theorem rd_10 (o : Option D) (r : Env) : rdEnv 10 (o :: r) = rdEnv 9 r := rfl
theorem rd_11 (o : Option D) (r : Env) : rdEnv 11 (o :: r) = rdEnv 10 r := rfl
theorem rd_12 (o : Option D) (r : Env) : rdEnv 12 (o :: r) = rdEnv 11 r := rfl
theorem rd_13 (o : Option D) (r : Env) : rdEnv 13 (o :: r) = rdEnv 12 r := rfl
theorem rd_14 (o : Option D) (r : Env) : rdEnv 14 (o :: r) = rdEnv 13 r := rfl
theorem rd_15 (o : Option D) (r : Env) : rdEnv 15 (o :: r) = rdEnv 14 r := rfl
theorem rd_16 (o : Option D) (r : Env) : rdEnv 16 (o :: r) = rdEnv 15 r := rfl
theorem rd_17 (o : Option D) (r : Env) : rdEnv 17 (o :: r) = rdEnv 16 r := rfl
theorem rd_18 (o : Option D) (r : Env) : rdEnv 18 (o :: r) = rdEnv 17 r := rfl
theorem lenF_str {t : List Nat} (h : t.length ≤ 16777216) : lenF [.str t] = M.ret (.int t.length) := M.guard_of (decide_eq_true h)
theorem lenF_lst (t : List D) : lenF [.lst t] = M.ret (.int t.length) := rfl
theorem lenF_tup (t : List D) : lenF [.tup t] = M.ret (.int t.length) := rfl
theorem intF_int (i : Int) : intF [.int i] = M.ret (.int i) := rfl
theorem intF_bl (i : Bool) : intF [.bl i] = M.ret (.int (if i then 1 else 0)) := rfl
theorem absF_int (i : Int) : absF [.int i] = M.ret (.int (if i < 0 then -i else i)) := rfl
theorem modD_int {i j : Int} (h : 0 < j) : modD (.int i) (.int j) = M.ret (.int (i % j)) := by
  show M.of (Option.map D.int (if 0 < j then some (i % j) else none)) = _
  rw [if_pos h]; rfl
theorem divD_int {i j : Int} (h : 0 < j) (h2 : j < 1073741824) : divD (.int i) (.int j) = M.ret (.int (i / j)) := by
  show M.of (Option.map D.int (if 0 < j ∧ j < 1073741824 then some (i / j) else none)) = _
  rw [if_pos ⟨h, h2⟩]; rfl
theorem subD_int (i j : Int) : subD (.int i) (.int j) = M.ret (.int (i - j)) := rfl
theorem addD_int (i j : Int) : addD (.int i) (.int j) = M.ret (.int (i + j)) := rfl
theorem addD_str {x y : List Nat} (h : x.length + y.length ≤ 16777216) : addD (.str x) (.str y) = M.ret (.str (x ++ y)) := M.guard_of (decide_eq_true h)
theorem addD_lst {x y : List D} (h : x.length + y.length ≤ 16777216) : addD (.lst x) (.lst y) = M.ret (.lst (x ++ y)) := M.guard_of (decide_eq_true h)
theorem mulD_int {i j : Int} (h : okM i j = true) : mulD (.int i) (.int j) = M.ret (.int (i * j)) := M.guard_of h
theorem okM_l {i j : Int} (h1 : -18446744073709551616 < i) (h2 : i < 18446744073709551616) : okM i j = true := by
  unfold okM
  rw [Bool.or_eq_true, Bool.and_eq_true]
  exact .inl ⟨decide_eq_true h1, decide_eq_true h2⟩
theorem okM_r {i j : Int} (h1 : -18446744073709551616 < j) (h2 : j < 18446744073709551616) : okM i j = true := by
  unfold okM
  rw [Bool.or_eq_true, Bool.and_eq_true, Bool.and_eq_true]
  exact .inr ⟨decide_eq_true h1, decide_eq_true h2⟩
theorem mulD_str {x : List Nat} {k : Int} (h : okRep x.length k = true) : mulD (.str x) (.int k) = M.ret (.str (repL x k.toNat)) := M.guard_of h
theorem mulD_lst {x : List D} {k : Int} (h : okRep x.length k = true) : mulD (.lst x) (.int k) = M.ret (.lst (repL x k.toNat)) := M.guard_of h
theorem negD_int (i : Int) : negD (.int i) = M.ret (.int (-i)) := rfl
theorem asI_int (i : Int) : asI (.int i) = M.ret (some i) := rfl
theorem asB_bl (b : Bool) : asB (.bl b) = M.ret b := rfl
theorem truD_bl (b : Bool) : truD (.bl b) = M.ret b := rfl
theorem slD_str {x : List Nat} {l h : Option Int} (hz : x.length ≤ 16777216) : slD l h (.str x) = M.ret (.str (cutL x l h)) := M.guard_of (decide_eq_true hz)
theorem slD_lst (x : List D) (l h : Option Int) : slD l h (.lst x) = M.ret (.lst (cutL x l h)) := rfl
theorem slD_scr (x : List Int) (l h : Option Int) : slD l h (.scr x) = M.ret (.lst (cutL (x.map D.int) l h)) := rfl
theorem revD_str {x : List Nat} (hz : x.length ≤ 16777216) : revD (.str x) = M.ret (.str x.reverse) := M.guard_of (decide_eq_true hz)
theorem revD_lst (x : List D) : revD (.lst x) = M.ret (.lst x.reverse) := rfl
theorem ltD_int (i j : Int) : ltD (.int i) (.int j) = M.ret (.bl (decide (i < j))) := rfl
theorem leD_int (i j : Int) : leD (.int i) (.int j) = M.ret (.bl (decide (i ≤ j))) := rfl
theorem gtD_int (i j : Int) : gtD (.int i) (.int j) = M.ret (.bl (decide (j < i))) := rfl
theorem geD_int (i j : Int) : geD (.int i) (.int j) = M.ret (.bl (decide (j ≤ i))) := rfl
theorem eqD_int (i j : Int) : eqD false (.int i) (.int j) = M.ret (.bl (decide (i = j))) := rfl
theorem eqD_str (i j : List Nat) : eqD false (.str i) (.str j) = M.ret (.bl (decide (i = j))) := rfl
theorem neD_int (i j : Int) : eqD true (.int i) (.int j) = M.ret (.bl (!decide (i = j))) := rfl
theorem neD_str (i j : List Nat) : eqD true (.str i) (.str j) = M.ret (.bl (!decide (i = j))) := rfl
theorem inD_str (c : Nat) (z : List Nat) : inD false (.str [c]) (.str z) = M.ret (.bl (decide (c ∈ z))) := rfl
theorem notInD_str (c : Nat) (z : List Nat) : inD true (.str [c]) (.str z) = M.ret (.bl (!decide (c ∈ z))) := rfl
/-- an item at a place from 0 on -/
theorem atI_lt {α : Type} {xs : List α} {i : Int} (h0 : 0 ≤ i) (h1 : i < xs.length) : atI xs i = xs[i.toNat]? := by
  have e : ((i.toNat : Nat) : Int) = i := by omega
  have hl : i.toNat < xs.length := by omega
  have h := atI_nat (xs := xs) (j := i.toNat) (v := xs[i.toNat]) (by simp [hl])
  rw [e] at h
  rw [h, List.getElem?_eq_getElem hl]
theorem ixD_str {x : List Nat} {i : Int} (hz : x.length ≤ 16777216) (h0 : 0 ≤ i) (h1 : i < x.length) : ixD (.str x) (.int i) = M.ret (.str [x.getD i.toNat 0]) := by
  have hl : i.toNat < x.length := by omega
  show M.guard (szS x.length) (M.of ((atI x i).map fun c => D.str [c])) = _
  rw [M.guard_of (show szS x.length = true from decide_eq_true hz), atI_lt h0 h1, List.getElem?_eq_getElem hl]
  simp [List.getD, List.getElem?_eq_getElem hl]
theorem ixD_lst {x : List D} {i : Int} {d : D} (h : atI x i = some d) : ixD (.lst x) (.int i) = M.ret d := by
  show M.of (atI x i) = _
  rw [h]; rfl
theorem ixD_tup {x : List D} {i : Int} {d : D} (h : atI x i = some d) : ixD (.tup x) (.int i) = M.ret d := by
  show M.of (atI x i) = _
  rw [h]; rfl
theorem rng1_int {j : Int} (h : -4611686018427387904 ≤ j) (h2 : j < 4611686018427387904) : rng1 [.int j] = M.ret ((List.range j.toNat).map fun k => .int (0 + (k : Nat))) := by
  refine M.guard_of ?_
  unfold okR
  rw [Bool.and_eq_true]
  exact ⟨decide_eq_true h, decide_eq_true h2⟩
theorem rng2_int {i j : Int} (h : -4611686018427387904 ≤ i) (h2 : i < 4611686018427387904) (h3 : -4611686018427387904 ≤ j) (h4 : j < 4611686018427387904) : rng2 [.int i, .int j] = M.ret ((List.range (j - i).toNat).map fun k => .int (i + (k : Nat))) := by
  refine M.guard_of ?_
  unfold okR
  rw [Bool.and_eq_true, Bool.and_eq_true, Bool.and_eq_true]
  exact ⟨⟨decide_eq_true h, decide_eq_true h2⟩, decide_eq_true h3, decide_eq_true h4⟩
theorem itemsD_lst (xs : List D) : itemsD (.lst xs) = M.ret xs := rfl
theorem itemsD_tup (xs : List D) : itemsD (.tup xs) = M.ret xs := rfl
theorem itemsD_str (x : List Nat) : itemsD (.str x) = M.ret (x.map fun c => .str [c]) := rfl
theorem szL_ok {xs : List D} (h : xs.length ≤ 16777216) {α : Type} {m : M α} : M.guard (szL xs) m = m := M.guard_of (decide_eq_true h)
theorem asTs_map (xs : List (List Nat)) : asTs (xs.map D.str) = some xs := by
  induction xs with
  | nil => rfl
  | cons x xs ih => show (match asTs (xs.map D.str) with | some l => some (x :: l) | none => none) = _; rw [ih]
theorem joinL_nil : ∀ xs : List (List Nat), TL.joinL [] xs = xs.flatten
  | [] => rfl
  | [x] => by simp [TL.joinL]
  | x :: y :: r => by
    show x ++ ([] ++ TL.joinL [] (y :: r)) = _
    rw [joinL_nil (y :: r)]; simp
theorem joinF_map {xs : List (List Nat)} (h : (xs.map List.length).sum ≤ 16777216) : joinF (.str []) (.lst (xs.map D.str)) = M.ret (.str xs.flatten) := by
  show (match asTs (xs.map D.str) with
    | some xs => M.guard (decide ((xs.map List.length).sum + xs.length * ([] : List Nat).length ≤ 16777216)) (M.ret (D.str (TL.joinL [] xs)))
    | none => M.fail) = _
  rw [asTs_map]
  show M.guard _ _ = _
  rw [M.guard_of (decide_eq_true (by simpa using h)), joinL_nil]
/-- texts of one sign each, joined -/
theorem joinF_one {α : Type} {xs : List α} {f : α → Nat} (h : xs.length ≤ 16777216) : joinF (.str []) (.lst (xs.map fun a => D.str [f a])) = M.ret (.str (xs.map f)) := by
  have e : (xs.map fun a => D.str [f a]) = (xs.map fun a => [f a]).map D.str := by simp
  rw [e, joinF_map]
  · congr 2
    induction xs with
    | nil => rfl
    | cons a r ih => simp [ih (Nat.le_trans (Nat.le_succ _) h)]
  · have : ∀ ys : List α, ((ys.map fun a => [f a]).map List.length).sum = ys.length := by
      intro ys
      induction ys with
      | nil => rfl
      | cons a r ih => rw [List.map_cons, List.map_cons, List.sum_cons, ih]; simp; omega
    rw [this xs]; exact h
/-! ### comprehensions -/
theorem compM_map {bs : D → Option (List (Nat × D))} {c : Env → M Bool} {e : Env → M D} {ρ : Env} {l : D → List (Nat × D)} {y : D → D} : ∀ {xs : List D}, (∀ x ∈ xs, bs x = some (l x) ∧ c (setAllD ρ (l x)) = M.ret true ∧ e (setAllD ρ (l x)) = M.ret (y x)) → compM bs c e ρ xs = M.ret (xs.map y)
  | [], _ => rfl
  | x :: xs, h => by
    obtain ⟨h1, h2, h3⟩ := h x (by simp)
    unfold compM
    rw [h1]
    show M.bind _ _ = _
    rw [h2, M.ret_bind, if_pos rfl, h3, M.ret_bind, compM_map (xs := xs) fun x hx => h x (by simp [hx])]
    rfl
theorem compM_filter {bs : D → Option (List (Nat × D))} {c : Env → M Bool} {e : Env → M D} {ρ : Env} {l : D → List (Nat × D)} {k : D → Bool} {y : D → D} : ∀ {xs : List D}, (∀ x ∈ xs, bs x = some (l x) ∧ c (setAllD ρ (l x)) = M.ret (k x) ∧ e (setAllD ρ (l x)) = M.ret (y x)) → compM bs c e ρ xs = M.ret ((xs.filter k).map y)
  | [], _ => rfl
  | x :: xs, h => by
    obtain ⟨h1, h2, h3⟩ := h x (by simp)
    unfold compM
    rw [h1]
    show M.bind _ _ = _
    have ih := compM_filter (xs := xs) (fun x hx => h x (by simp [hx]))
    rw [h2, M.ret_bind]
    cases hk : k x with
    | true => rw [if_pos rfl, h3, M.ret_bind, ih, List.filter_cons_of_pos hk]; rfl
    | false => rw [if_neg Bool.false_ne_true, ih, List.filter_cons_of_neg (by simp [hk])]
theorem compM_mapI {α : Type} {bs : D → Option (List (Nat × D))} {c : Env → M Bool} {e : Env → M D} {ρ : Env} {inj : α → D} {l : α → List (Nat × D)} {y : α → D} : ∀ {xs : List α}, (∀ a ∈ xs, bs (inj a) = some (l a) ∧ c (setAllD ρ (l a)) = M.ret true ∧ e (setAllD ρ (l a)) = M.ret (y a)) → compM bs c e ρ (xs.map inj) = M.ret (xs.map y)
  | [], _ => rfl
  | x :: xs, h => by
    obtain ⟨h1, h2, h3⟩ := h x (by simp)
    rw [List.map_cons]
    unfold compM
    rw [h1]
    show M.bind _ _ = _
    rw [h2, M.ret_bind, if_pos rfl, h3, M.ret_bind, compM_mapI (xs := xs) fun x hx => h x (by simp [hx])]
    rfl
theorem compM_filterI {α : Type} {bs : D → Option (List (Nat × D))} {c : Env → M Bool} {e : Env → M D} {ρ : Env} {inj : α → D} {l : α → List (Nat × D)} {k : α → Bool} {y : α → D} : ∀ {xs : List α}, (∀ a ∈ xs, bs (inj a) = some (l a) ∧ c (setAllD ρ (l a)) = M.ret (k a) ∧ e (setAllD ρ (l a)) = M.ret (y a)) → compM bs c e ρ (xs.map inj) = M.ret ((xs.filter k).map y)
  | [], _ => rfl
  | x :: xs, h => by
    obtain ⟨h1, h2, h3⟩ := h x (by simp)
    rw [List.map_cons]
    unfold compM
    rw [h1]
    show M.bind _ _ = _
    have ih := compM_filterI (xs := xs) (fun x hx => h x (by simp [hx]))
    rw [h2, M.ret_bind]
    cases hk : k x with
    | true => rw [if_pos rfl, h3, M.ret_bind, ih, List.filter_cons_of_pos hk]; rfl
    | false => rw [if_neg Bool.false_ne_true, ih, List.filter_cons_of_neg (by simp [hk])]
theorem cut_all {α : Type} (xs : List α) {k : Int} (h : (xs.length : Int) ≤ k) : cutL xs none (some k) = xs := by
  unfold cutL
  have e : HT.sIx xs.length xs.length (some k) = xs.length := by
    show (if k < 0 then _ else min k.toNat xs.length) = _
    rw [if_neg (by omega)]; omega
  rw [e]
  simp [HT.sIx]
theorem cut_to {α : Type} (xs : List α) {k : Int} (h : 0 ≤ k) : cutL xs none (some k) = xs.take k.toNat := by
  unfold cutL
  have e : HT.sIx xs.length xs.length (some k) = min k.toNat xs.length := by
    show (if k < 0 then _ else min k.toNat xs.length) = _
    rw [if_neg (by omega)]
  rw [e]
  have e0 : HT.sIx xs.length 0 none = 0 := rfl
  rw [e0, List.drop_zero, Nat.sub_zero, ← List.take_take, List.take_length]
theorem cut_from {α : Type} (xs : List α) {k : Int} (h : 0 ≤ k) : cutL xs (some k) none = xs.drop k.toNat := by
  unfold cutL
  have e : HT.sIx xs.length 0 (some k) = min k.toNat xs.length := by
    show (if k < 0 then _ else min k.toNat xs.length) = _
    rw [if_neg (by omega)]
  have e1 : HT.sIx xs.length xs.length none = xs.length := rfl
  rw [e, e1, List.take_of_length_le (by simp)]
  by_cases hk : k.toNat ≤ xs.length
  · rw [Nat.min_eq_left hk]
  · rw [Nat.min_eq_right (by omega), List.drop_of_length_le (Nat.le_refl _), List.drop_of_length_le (by omega)]
theorem compM_tot {p : Addr} {bs : D → Option (List (Nat × D))} {c : Env → M Bool} {e : Env → M D} {ρ : Env} {P : D → Prop} : ∀ {xs : List D}, (∀ x ∈ xs, ∃ l, bs x = some l ∧ c (setAllD ρ l) = M.ret true ∧ Tot p (e (setAllD ρ l)) P) → Tot p (compM bs c e ρ xs) fun ys => ys.length = xs.length ∧ ∀ y ∈ ys, P y
  | [], _ => Tot.ret ⟨rfl, fun _ h => nomatch h⟩
  | x :: xs, h => by
    obtain ⟨l, h1, h2, h3⟩ := h x (by simp)
    unfold compM
    rw [h1]
    show Tot p (M.bind _ _) _
    rw [h2, M.ret_bind, if_pos rfl]
    refine h3.bind fun y hy => (compM_tot (xs := xs) fun x hx => h x (by simp [hx])).bind fun ys hys => Tot.ret ⟨by simp [hys.1], fun z hz => ?_⟩
    rcases List.mem_cons.mp hz with rfl | hz
    · exact hy
    · exact hys.2 z hz
/-! ### statements, whatever the bag draws -/
theorem Tot.of_ret {α : Type} {p : Addr} {m : M α} {a : α} (h : m = M.ret a) {P : α → Prop} (hp : P a) : Tot p m P := by rw [h]; exact Tot.ret hp
def NxP (A : Env2 → Prop) (o : Out) : Prop := ∃ ρ, o = .nx ρ ∧ A ρ
theorem tot_seq {p : Addr} {F F2 : Env2 → M Out} {ρ : Env2} {A : Env2 → Prop} {Q : Out → Prop} (h : Tot p (F ρ) (NxP A)) (h2 : ∀ ρ', A ρ' → Tot p (F2 ρ') Q) : Tot p (seqM F F2 ρ) Q := by
  refine Tot.bind h fun o ho => ?_
  obtain ⟨ρ', rfl, ha⟩ := ho
  exact h2 ρ' ha
theorem tot_set {p : Addr} {i : Nat} {ms : List Nat} {f : Env → M D} {F2 : Env2 → M Out} {ρ : Env2} {P : D → Prop} {Q : Out → Prop} (h : Tot p (f (view ms ρ)) P) (h2 : ∀ d, P d → Tot p (F2 ((keepIf d.flat ms ρ).set i (some (.val d)))) Q) : Tot p (seqM (setM i ms f) F2 ρ) Q := by
  show Tot p (M.bind (M.bind _ _) _) _
  rw [M.bind_assoc]
  exact h.bind fun d hd => h2 d hd
theorem tot_setN {p : Addr} {i : Nat} {ms : List Nat} {f : Env → M (List D)} {F2 : Env2 → M Out} {ρ : Env2} {P : List D → Prop} {Q : Out → Prop} (h : Tot p (f (view ms ρ)) P) (h2 : ∀ d, P d → Tot p (F2 ((keepIf (d.all D.flat) ms ρ).set i (some (.own d)))) Q) : Tot p (seqM (setNM i ms f) F2 ρ) Q := by
  show Tot p (M.bind (M.bind _ _) _) _
  rw [M.bind_assoc]
  exact h.bind fun d hd => h2 d hd
theorem tot_ifN {p : Addr} {ms : List Nat} {t : Env → M Bool} {F1 F0 F2 : Env2 → M Out} {ρ : Env2} {Q : Out → Prop} (h : Tot p (t (view ms ρ)) (· = false)) (h2 : Tot p (seqM F0 F2 ρ) Q) : Tot p (seqM (ifM ms t F1 F0) F2 ρ) Q := by
  show Tot p (M.bind (M.bind _ _) _) _
  rw [M.bind_assoc]
  refine h.bind fun k hk => ?_
  subst hk
  exact h2
theorem tot_if {p : Addr} {ms : List Nat} {t : Env → M Bool} {F1 F0 F2 : Env2 → M Out} {ρ : Env2} {Q : Out → Prop} (h : Tot p (t (view ms ρ)) fun _ => True) (h1 : Tot p (seqM F1 F2 ρ) Q) (h2 : Tot p (seqM F0 F2 ρ) Q) : Tot p (seqM (ifM ms t F1 F0) F2 ρ) Q := by
  show Tot p (M.bind (M.bind _ _) _) _
  rw [M.bind_assoc]
  refine h.bind fun k _ => ?_
  cases k with
  | true => exact h1
  | false => exact h2
theorem tot_loop {p : Addr} {bs : D → Option (List (Nat × D))} {body : Env2 → M Out} {I : Env2 → Prop} : ∀ {xs : List D} {ρ : Env2}, (∀ x ∈ xs, ∀ ρ, I ρ → ∃ l, bs x = some l ∧ Tot p (body (setAll2 ρ l)) (NxP I)) → I ρ → Tot p (loopM bs body xs ρ) (NxP I)
  | [], ρ, _, hi => Tot.ret ⟨ρ, rfl, hi⟩
  | x :: xs, ρ, h, hi => by
    obtain ⟨l, h1, h2⟩ := h x (by simp) ρ hi
    unfold loopM
    rw [h1]
    refine h2.bind fun o ho => ?_
    obtain ⟨ρ', rfl, hi'⟩ := ho
    exact tot_loop (xs := xs) (fun x hx => h x (by simp [hx])) hi'
theorem tot_forR {p : Addr} {ms : List Nat} {gi : Env → M (List D)} {bs : D → Option (List (Nat × D))} {body : Env2 → M Out} {ρ : Env2} {I : Env2 → Prop} {xs : List D} (hx : gi (view ms ρ) = M.ret xs) (h : ∀ x ∈ xs, ∀ ρ, I ρ → ∃ l, bs x = some l ∧ Tot p (body (setAll2 ρ l)) (NxP I)) (hi : I ρ) : Tot p (forRM ms gi bs body ρ) (NxP I) := by
  show Tot p (M.bind _ _) _
  rw [hx]
  exact tot_loop h hi
theorem tot_for {p : Addr} {ms : List Nat} {gi : Env → M (List D)} {bs : D → Option (List (Nat × D))} {body : Env2 → M Out} {ρ : Env2} {I : Env2 → Prop} {P : List D → Prop} (hx : Tot p (gi (view ms ρ)) P) (h : ∀ xs, P xs → ∀ x ∈ xs, ∀ ρ, I ρ → ∃ l, bs x = some l ∧ Tot p (body (setAll2 ρ l)) (NxP I)) (hi : I (frz ms ρ)) : Tot p (forA ms gi bs body ρ) (NxP I) :=
  hx.bind fun xs hp => tot_loop (h xs hp) hi
theorem tot_nx {p : Addr} {ρ : Env2} {A : Env2 → Prop} (h : A ρ) : Tot p (sNil ρ) (NxP A) := Tot.ret ⟨ρ, rfl, h⟩
theorem tot_skip {p : Addr} {F2 : Env2 → M Out} {ρ : Env2} {Q : Out → Prop} (h : Tot p (F2 ρ) Q) : Tot p (seqM sNil F2 ρ) Q := h
theorem tot_app {p : Addr} {j : Nat} {ms : List Nat} {f : Env → M D} {ρ : Env2} {xs : List D} {d : D} {A : Env2 → Prop} (h : f (view ms ρ) = M.ret d) (hj : (keepIf d.flat ms ρ)[j]? = some (some (.own xs))) (hl : xs.length < 16777216) (ha : A ((keepIf d.flat ms ρ).set j (some (.own (xs ++ [d]))))) : Tot p (appM j ms f ρ) (NxP A) := by
  refine Tot.of_ret (a := .nx ((keepIf d.flat ms ρ).set j (some (.own (xs ++ [d]))))) ?_ ⟨_, rfl, ha⟩
  show M.bind _ _ = _
  rw [h, M.ret_bind, hj]
  exact M.guard_of (decide_eq_true hl)
theorem tot_unp {p : Addr} {bs : D → Option (List (Nat × D))} {ms : List Nat} {f : Env → M D} {F2 : Env2 → M Out} {ρ : Env2} {P : D → Prop} {Q : Out → Prop} (h : Tot p (f (view ms ρ)) P) (h2 : ∀ d, P d → ∃ l, bs d = some l ∧ Tot p (F2 (setAll2 (keepIf d.flat ms ρ) l)) Q) : Tot p (seqM (unpM bs ms f) F2 ρ) Q := by
  show Tot p (M.bind (M.bind _ _) _) _
  rw [M.bind_assoc]
  refine h.bind fun d hd => ?_
  obtain ⟨l, h3, h4⟩ := h2 d hd
  rw [h3]
  exact h4
theorem tot_ifL {p : Addr} {ms : List Nat} {t : Env → M Bool} {F1 F0 : Env2 → M Out} {ρ : Env2} {Q : Out → Prop} (h : Tot p (t (view ms ρ)) (· = false)) (h2 : Tot p (F0 ρ) Q) : Tot p (ifM ms t F1 F0 ρ) Q := by
  refine h.bind fun k hk => ?_
  subst hk
  exact h2
theorem tot_ret {p : Addr} {ms : List Nat} {f : Env → M D} {ρ : Env2} {d : D} (h : Tot p (f (view ms ρ)) (· = d)) : Tot p (retM ms f ρ) (· = .rt d) := h.bind fun x hx => Tot.ret (by rw [hx])
end DL
set_option Elab.async false
set_option maxRecDepth 100000
set_option autoImplicit false
set_option linter.unusedVariables false
set_option maxHeartbeats 4000000
namespace DL
open PySem L2 PySem.Spec PyProof.Rows
/-! ### classes with slots -/
structure ClsAt (K : PySem.W.Frag) (mg : Str → Option Value) (c : Nat) (C : Addr) : Prop where
  ns : PySem.W.nsIn K mainGlobals (clsName c) = some (some (.ref C))
  gl : mg (clsName c) = some (.ref C)
  cl : SlX.SCls K C
def isC (c : Nat) : D → Bool
  | .obj k _ => k == c
  | _ => false
theorem isC_rp {K : PySem.W.Frag} {mg : Str → Option Value} {G : Hp} {v : V} {d : D} {c : Nat} {C : Addr} (T : ClsAt K mg c C) (h : isC c d = true) (r : Rp K G v d) : ∃ a dx vs fs, d = .obj c fs ∧ v = .ref a ∧ SlX.Slt G a C dx (vs.map some) ∧ RpL K G vs fs := by
  cases r with
  | @obj c' a C' dx vs ds h0 h1 h2 h3 =>
    have e : c' = c := by simpa [isC] using h
    subst e
    rw [T.ns] at h0
    cases h0
    exact ⟨a, dx, vs, ds, rfl, rfl, .inr ⟨h1, h2⟩, h3⟩
  | _ => cases h
theorem slt_mono {G H : Hp} {a C dx : Addr} {vs : List (Option V)} (s : Same G H) (h : SlX.Slt G a C dx vs) : SlX.Slt H a C dx vs := by
  rcases h with ⟨h1, h2⟩ | ⟨h1, h2⟩
  · exact .inl ⟨s _ _ h1, h2⟩
  · exact .inr ⟨s _ _ h1, s _ _ h2⟩
def slotD (c i : Nat) : D → M D
  | .obj k fs => M.guard (k == c) (M.of fs[i]?)
  | _ => M.fail
def propD (c : Nat) (F : List D → M D) (x : D) : M D := M.guard (isC c x) (F [x])
def eMeth (c : Nat) (F : List D → M D) (f : Env → M D) (fa : Env → M (List D)) : Env → M D := fun ρ => M.bind (f ρ) fun x => M.guard (isC c x) (M.bind (fa ρ) fun ds => F (x :: ds))
def nMeth (c : Nat) (F : List D → M (List D)) (f : Env → M D) (fa : Env → M (List D)) : Env → M (List D) := fun ρ => M.bind (f ρ) fun x => M.guard (isC c x) (M.bind (fa ρ) fun ds => F (x :: ds))
section
variable {X : Cx} {c : Nat} {C : Addr} {e o : Expr} {es : List Expr} {f : Env → M D} {fa : Env → M (List D)} {pos apos : Pos} {fld m : Str} {k : Nat} {g : Addr} {fd : FuncData} {ps : List Str} {n : Nat} {Fn : List D → M D} {Fl : List D → M (List D)}
theorem d_slot {p : Addr} {i : Nat} (T : ClsAt X.K X.mg c C) (t : SlX.Slot1 X.K C fld p i) (he : DE X e f) (hb : attributeBase e fld X.env (eval e X.env) = eval e X.env := by rfl) : DE X (.Attribute e fld pos) (e1 (slotD c i) f) := by
  refine PEimp (SlX.pe_sl he hb) ?_
  rintro σ H Q ⟨ρ, G, b, d, b', rs, fz, ob, e, q⟩
  obtain ⟨x, b1, e1, e2⟩ := M.bind_some e
  refine ⟨ρ, G, b, x, b1, rs, fz, ob, e1, fun v G1 H1 n1 r => ?_⟩
  have hc : isC c x = true := by
    cases x <;> first | (cases e2; done) | skip
    rename_i k fs
    obtain ⟨h, _⟩ := M.guard_some e2
    exact h
  obtain ⟨a, dx, vs, fs, rfl, rfl, hs, rl⟩ := isC_rp T hc r
  obtain ⟨_, e3⟩ := M.guard_some e2
  cases ef : fs[i]? with
  | none => rw [ef] at e3; cases e3
  | some y =>
    rw [ef] at e3
    cases e3
    obtain ⟨u, h1, h2⟩ := rl.get ef
    exact ⟨a, C, dx, p, _, i, u, rfl, slt_mono n1.fz hs, T.cl, t, by rw [List.getElem?_map, h1]; rfl, q u G1 H1 n1 h2⟩
structure PropAt (K : PySem.W.Frag) (C : Addr) (fld : Str) (p g : Addr) : Prop where
  at_ : PySem.W.findIn K (.ref C) fld = some (some (.ref p))
  get : PySem.W.specialIn K (.ref p) "__get__" = some (some (.builtin "property.__get__"))
  tk : PySem.W.takesIn K (.ref p) = some true
  rc : ∃ rest, PySem.W.recIn K p "property" = some (.ref g :: rest)
theorem raw0 {P : Program} {w : World} {K : PySem.W.Frag} {mg : Str → Option Value} {base : Heap} {sp : Sp} (F : FnOk P w K mg base CX0 k g fd ps sp) (hb : Binds K fd ps []) : FnR P w K mg base CX0 k g (fun vs H Q E => sp (vs ++ []) H Q E) := F.raw hb .nil
theorem d_prop {p : Addr} (T : ClsAt X.K X.mg c C) (t : PropAt X.K C fld p g) (F : FnOk X.prog X.w X.K X.mg X.base CX0 k g fd ps (spD X.K 1 Fn)) (hb : Binds X.K fd ps []) (hr : Room (k + 1) X.A) (he : DE X e f) (hab : attributeBase e fld X.env (eval e X.env) = eval e X.env := by rfl) :
    DE X (.Attribute e fld pos) (e1 (propD c Fn) f) := by
  refine PEimp (SlX.pe_propSl (E := E0) he T.cl t.at_ t.get t.tk t.rc (raw0 F hb) hr (fun _ _ _ _ h => h) hab) ?_
  rintro σ H Q ⟨ρ, G, b, d, b', rs, fz, ob, e, q⟩
  obtain ⟨x, b1, e1, e2⟩ := M.bind_some e
  obtain ⟨hc, e3⟩ := M.guard_some e2
  refine ⟨ρ, G, b, x, b1, rs, fz, ob, e1, fun v G1 H1 n1 r => ?_⟩
  obtain ⟨a, dx, vs, fs, rfl, rfl, hs, rl⟩ := isC_rp T hc r
  exact ⟨a, dx, _, rfl, slt_mono n1.fz hs, G1, b1, [.obj c fs], d, b', .cons r .nil, rfl, n1.fz, n1.bag, e3, fun v G2 H2 n2 r2 => q v G2 H2 (n1.trans n2) r2⟩
theorem meth_f (T : ClsAt X.K X.mg c C) (hn : ArN fa n) : ∀ σ H Q, tF X.K (eMeth c Fn f fa) σ H Q → SlX.tMethSl C (fun vs H Q E => spD X.K (n + 1) Fn (vs ++ []) H Q E) E0 (tF X.K f) (tFA X.K fa) σ H Q := by
  rintro σ H Q ⟨ρ, G, b, d, b', rs, fz, ob, e, q⟩
  obtain ⟨x, b1, e1, e2⟩ := M.bind_some e
  obtain ⟨hc, e3⟩ := M.guard_some e2
  obtain ⟨ds, b2, e4, e5⟩ := M.bind_some e3
  refine ⟨ρ, G, b, x, b1, rs, fz, ob, e1, fun v G1 H1 n1 r => ?_⟩
  obtain ⟨a, dx, vs, fs, rfl, rfl, hs, rl⟩ := isC_rp T hc r
  refine ⟨a, dx, _, rfl, slt_mono n1.fz hs, ρ, G1, b1, ds, b2, rs.mono n1.gg, n1.fz, n1.bag, e4, fun ws G2 H2 n2 r2 => ?_⟩
  exact ⟨G2, b2, .obj c fs :: ds, d, b', by rw [List.append_nil]; exact .cons (r.mono n2.gg) r2, by simp [hn _ _ _ _ e4], n2.fz, n2.bag, e5, fun v G3 H3 n3 r3 => q v G3 H3 ((n1.trans n2).trans n3) r3⟩
theorem methN_f (T : ClsAt X.K X.mg c C) (hn : ArN fa n) : ∀ σ H Q, tN X.K (nMeth c Fl f fa) σ H Q → SlX.tMethSl C (fun vs H Q E => spN X.K (n + 1) Fl (vs ++ []) H Q E) E0 (tF X.K f) (tFA X.K fa) σ H Q := by
  rintro σ H Q ⟨ρ, G, b, d, b', rs, fz, ob, e, q⟩
  obtain ⟨x, b1, e1, e2⟩ := M.bind_some e
  obtain ⟨hc, e3⟩ := M.guard_some e2
  obtain ⟨ds, b2, e4, e5⟩ := M.bind_some e3
  refine ⟨ρ, G, b, x, b1, rs, fz, ob, e1, fun v G1 H1 n1 r => ?_⟩
  obtain ⟨a, dx, vs, fs, rfl, rfl, hs, rl⟩ := isC_rp T hc r
  refine ⟨a, dx, _, rfl, slt_mono n1.fz hs, ρ, G1, b1, ds, b2, rs.mono n1.gg, n1.fz, n1.bag, e4, fun ws G2 H2 n2 r2 => ?_⟩
  exact ⟨G2, b2, .obj c fs :: ds, d, b', by rw [List.append_nil]; exact .cons (r.mono n2.gg) r2, by simp [hn _ _ _ _ e4], n2.fz, n2.bag, e5, fun p ws G3 H3 n3 hp gp hh r3 => q p ws G3 H3 ((n1.trans n2).trans n3) ((n1.trans n2).free hp) gp hh r3⟩
theorem d_meth (T : ClsAt X.K X.mg c C) (hm : Meth X.K C m g) (F : FnOk X.prog X.w X.K X.mg X.base CX0 k g fd ps (spD X.K (n + 1) Fn)) (hb : Binds X.K fd ps []) (hr : Room k X.A) (he : DE X o f) (ha : DA X (e :: es) fa) (hn : ArN fa n)
    (hst : starEach (e :: es) X.env = (false, eval e X.env) :: starEach es X.env := by rfl) (hpl : (backTo pos (starEach es X.env)).any (·.1) = false := by rfl) {pl : Sem Bool}
    (ht : eval (.Call (.Attribute o m apos) (e :: es) [] pos) X.env = (do
      let ov ← eval o X.env
      standAt apos.atName
      let (f, first) ← holding [ov] (getMethod ov m pl)
      callWith pos f first (backTo pos (starEach (e :: es) X.env)) (backToKw pos (keywordEach [] X.env))) := by rfl) :
    DE X (.Call (.Attribute o m apos) (e :: es) [] pos) (eMeth c Fn f fa) :=
  PEimp (SlX.pe_methSl he T.cl hm (raw0 F hb) hr pass0 ha hst hpl ht) (meth_f T hn)
theorem dn_meth (T : ClsAt X.K X.mg c C) (hm : Meth X.K C m g) (F : FnOk X.prog X.w X.K X.mg X.base CX0 k g fd ps (spN X.K (n + 1) Fl)) (hb : Binds X.K fd ps []) (hr : Room k X.A) (he : DE X o f) (ha : DA X (e :: es) fa) (hn : ArN fa n)
    (hst : starEach (e :: es) X.env = (false, eval e X.env) :: starEach es X.env := by rfl) (hpl : (backTo pos (starEach es X.env)).any (·.1) = false := by rfl) {pl : Sem Bool}
    (ht : eval (.Call (.Attribute o m apos) (e :: es) [] pos) X.env = (do
      let ov ← eval o X.env
      standAt apos.atName
      let (f, first) ← holding [ov] (getMethod ov m pl)
      callWith pos f first (backTo pos (starEach (e :: es) X.env)) (backToKw pos (keywordEach [] X.env))) := by rfl) :
    DN X (.Call (.Attribute o m apos) (e :: es) [] pos) (nMeth c Fl f fa) :=
  PEimp (SlX.pe_methSl he T.cl hm (raw0 F hb) hr pass0 ha hst hpl ht) (methN_f T hn)
theorem meth0_f (T : ClsAt X.K X.mg c C) : ∀ σ H Q, tF X.K (e1 (propD c Fn) f) σ H Q → SlX.tMethSl C (fun vs H Q E => spD X.K 1 Fn (vs ++ []) H Q E) E0 (tF X.K f) tNil σ H Q := by
  rintro σ H Q ⟨ρ, G, b, d, b', rs, fz, ob, e, q⟩
  obtain ⟨x, b1, e1, e2⟩ := M.bind_some e
  obtain ⟨hc, e3⟩ := M.guard_some e2
  refine ⟨ρ, G, b, x, b1, rs, fz, ob, e1, fun v G1 H1 n1 r => ?_⟩
  obtain ⟨a, dx, vs, fs, rfl, rfl, hs, rl⟩ := isC_rp T hc r
  exact ⟨a, dx, _, rfl, slt_mono n1.fz hs, G1, b1, [.obj c fs], d, b', .cons r .nil, rfl, n1.fz, n1.bag, e3, fun v G2 H2 n2 r2 => q v G2 H2 (n1.trans n2) r2⟩
theorem d_meth0 (T : ClsAt X.K X.mg c C) (hm : Meth X.K C m g) (F : FnOk X.prog X.w X.K X.mg X.base CX0 k g fd ps (spD X.K 1 Fn)) (hb : Binds X.K fd ps []) (hr : Room k X.A) (he : DE X o f) {pl : Sem Bool}
    (ht : eval (.Call (.Attribute o m apos) [] [] pos) X.env = (do
      let ov ← eval o X.env
      standAt apos.atName
      let (f, first) ← holding [ov] (getMethod ov m pl)
      callWith pos f first (backTo pos (starEach [] X.env)) (backToKw pos (keywordEach [] X.env))) := by rfl) :
    DE X (.Call (.Attribute o m apos) [] [] pos) (e1 (propD c Fn) f) :=
  PEimp (SlX.pe_methSl0 he T.cl hm (raw0 F hb) hr pass0 ht) (meth0_f T)
def propN (c : Nat) (F : List D → M (List D)) (x : D) : M (List D) := M.guard (isC c x) (F [x])
def n1M (h : D → M (List D)) (f : Env → M D) : Env → M (List D) := fun ρ => M.bind (f ρ) h
theorem methN0_f (T : ClsAt X.K X.mg c C) : ∀ σ H Q, tN X.K (n1M (propN c Fl) f) σ H Q → SlX.tMethSl C (fun vs H Q E => spN X.K 1 Fl (vs ++ []) H Q E) E0 (tF X.K f) tNil σ H Q := by
  rintro σ H Q ⟨ρ, G, b, d, b', rs, fz, ob, e, q⟩
  obtain ⟨x, b1, e1, e2⟩ := M.bind_some e
  obtain ⟨hc, e3⟩ := M.guard_some e2
  refine ⟨ρ, G, b, x, b1, rs, fz, ob, e1, fun v G1 H1 n1 r => ?_⟩
  obtain ⟨a, dx, vs, fs, rfl, rfl, hs, rl⟩ := isC_rp T hc r
  exact ⟨a, dx, _, rfl, slt_mono n1.fz hs, G1, b1, [.obj c fs], d, b', .cons r .nil, rfl, n1.fz, n1.bag, e3, fun p ws G2 H2 n2 hp gp hh r2 => q p ws G2 H2 (n1.trans n2) (n1.free hp) gp hh r2⟩
theorem dn_meth0 (T : ClsAt X.K X.mg c C) (hm : Meth X.K C m g) (F : FnOk X.prog X.w X.K X.mg X.base CX0 k g fd ps (spN X.K 1 Fl)) (hb : Binds X.K fd ps []) (hr : Room k X.A) (he : DE X o f) {pl : Sem Bool}
    (ht : eval (.Call (.Attribute o m apos) [] [] pos) X.env = (do
      let ov ← eval o X.env
      standAt apos.atName
      let (f, first) ← holding [ov] (getMethod ov m pl)
      callWith pos f first (backTo pos (starEach [] X.env)) (backToKw pos (keywordEach [] X.env))) := by rfl) :
    DN X (.Call (.Attribute o m apos) [] [] pos) (n1M (propN c Fl) f) :=
  PEimp (SlX.pe_methSl0 he T.cl hm (raw0 F hb) hr pass0 ht) (methN0_f T)
/-! ### what is never reached -/
theorem d_fail : DE X e (fun _ => M.fail) := ⟨fun pins s σ H Q I ⟨ρ, G, b, d, b', _, _, _, e, _⟩ => by cases e⟩
theorem t_fail : DT X e (fun _ => M.fail) := ⟨fun pins s σ H Q I ⟨ρ, G, b, d, b', _, _, _, e, _⟩ => by cases e⟩
theorem s_fail {st : Stmt} : DS X st (fun _ => M.fail) := ⟨fun pins s σ H Dn I ⟨E, ρ, G, b, o, b', _, e, _⟩ => by cases e⟩
end
/-! ### making an instance -/
/-- __init__ fills the slots of the new instance -/
def spI (K : PySem.W.Frag) (n : Nat) (C : Addr) (F : List D → M (List D)) : Sp := fun vs H Q _ => ∃ x dx ws G b ds fs b', vs = .ref x :: ws ∧ H x = some (.ins C dx []) ∧ H dx = some (.own x) ∧ dx ≠ x ∧ G x = none ∧ G dx = none ∧ b.at ≠ some x ∧ b.at ≠ some dx ∧
  RpL K G ws ds ∧ ds.length = n ∧ Same G H ∧ BagOk G H b ∧ F ds b = some (fs, b') ∧ ∀ us G' H', Nxt G H b G' H' b' → RpL K G' us fs → Q .non (SlX.slH H' x C dx (us.map some))
theorem slH_same {H : Hp} {x C dx : Addr} {vs : List (Option V)} (hx : H x = none) (hd : H dx = none) : Same H (SlX.slH H x C dx vs) := fun a o h => by
  rw [SlX.slH_ne (ne_of_none h hx) (ne_of_none h hd)]
  exact h
theorem Nxt.made {G H G' H' : Hp} {b b' : Bs} {x C dx : Addr} {vs : List (Option V)} (n : Nxt G H b G' H' b') (ob : BagOk G H b) (hx : H x = none) (hd : H dx = none) (gx : G' x = none) (gd : G' dx = none) : Nxt G H b (SlX.slH G' x C dx vs) (SlX.slH H' x C dx vs) b' := by
  have nx : b'.at ≠ some x := by rw [← Bs.like_at n.like]; exact bag_ne ob hx
  have nd : b'.at ≠ some dx := by rw [← Bs.like_at n.like]; exact bag_ne ob hd
  have sg : Same G' (SlX.slH G' x C dx vs) := slH_same gx gd
  refine ⟨fun a o h => sg a o (n.gg a o h), fun a o h => ?_, fun a o h hb => ?_, fun a o h hn => ?_, ?_, n.like⟩
  · by_cases h1 : a = x
    · rw [h1] at h ⊢
      unfold SlX.slH at h ⊢
      rw [upd_same] at h ⊢
      exact h
    · by_cases h2 : a = dx
      · unfold SlX.slH at h ⊢
        rw [upd_ne h1, h2, upd_same] at h
        rw [upd_ne h1, h2, upd_same]
        exact h
      · rw [SlX.slH_ne h1 h2] at h ⊢
        exact n.fz a o h
  · rw [SlX.slH_ne (ne_of_none h hx) (ne_of_none h hd)]
    exact n.keep a o h hb
  · rw [SlX.slH_ne (ne_of_none h hx) (ne_of_none h hd)]
    exact n.new a o h hn
  · have ob' := n.bag
    cases b' with
    | none => trivial
    | some g =>
      obtain ⟨h1, h2, h3⟩ := ob'
      have p1 : g.p ≠ x := fun z => nx (by rw [← z]; rfl)
      have p2 : g.p ≠ dx := fun z => nd (by rw [← z]; rfl)
      exact ⟨by rw [SlX.slH_ne p1 p2]; exact h1, by rw [SlX.slH_ne p1 p2]; exact h2, sg _ _ h3⟩
def eMake (c : Nat) (F : List D → M (List D)) (fa : Env → M (List D)) : Env → M D := fun ρ => M.bind (fa ρ) fun ds => M.bind (F ds) fun fs => M.ret (.obj c fs)
section
variable {X : Cx} {c : Nat} {C : Addr} {e o : Expr} {es : List Expr} {f : Env → M D} {fa : Env → M (List D)} {p pos : Pos} {x : Str} {k : Nat} {g : Addr} {fd : FuncData} {ps : List Str} {n : Nat} {Fi : List D → M (List D)}
theorem make_f (T : ClsAt X.K X.mg c C) (hn : ArN fa n) : ∀ σ H Q, tF X.K (eMake c Fi fa) σ H Q → tMake C (spI X.K n C Fi) [] E0 (tFA X.K fa) σ H Q := by
  rintro σ H Q ⟨ρ, G, b, d, b', rs, fz, ob, e, q⟩
  obtain ⟨ds, b1, e1, e2⟩ := M.bind_some e
  obtain ⟨fs, b2, e3, e4⟩ := M.bind_some e2
  cases e4
  refine ⟨ρ, G, b, ds, b1, rs, fz, ob, e1, fun ws G1 H1 n1 r1 => ?_⟩
  intro x dx hx hd ne
  have m1 : Nxt G1 H1 b1 G1 (upd H1 dx (.own x)) b1 := Nxt.newH n1.fz n1.bag hd
  have hx1 : upd H1 dx (.own x) x = none := by rw [upd_ne (Ne.symm ne)]; exact hx
  have m2 : Nxt G1 H1 b1 G1 (upd (upd H1 dx (.own x)) x (.ins C dx [])) b1 := m1.trans (Nxt.newH m1.fz m1.bag hx1)
  have gx : G1 x = none := gnone n1.fz hx
  have gd : G1 dx = none := gnone n1.fz hd
  refine ⟨x, dx, ws, G1, b1, ds, fs, b', by rw [List.append_nil], upd_same, by rw [upd_ne ne, upd_same], ne, gx, gd, bag_ne n1.bag hx, bag_ne n1.bag hd, r1, hn _ _ _ _ e1, m2.fz, m2.bag, e3, fun us G2 H2 n2 r2 => ⟨rfl, ?_⟩⟩
  have g2x : G2 x = none := n2.new x _ upd_same gx
  have g2d : G2 dx = none := n2.new dx (.own x) (by rw [upd_ne ne, upd_same]) gd
  have n3 : Nxt G1 H1 b1 G2 H2 b' := m2.trans n2
  refine q (.ref x) _ _ (n1.trans (n3.made n1.bag hx hd g2x g2d)) (.obj T.ns (C := C) (dx := dx) (vs := us) ?_ ?_ (r2.mono (slH_same g2x g2d)))
  · unfold SlX.slH
    exact upd_same
  · unfold SlX.slH
    rw [upd_ne ne, upd_same]
theorem d_make (T : ClsAt X.K X.mg c C) (hm : Mk X.K C g) (F : FnOk X.prog X.w X.K X.mg X.base CX0 k g fd ps (spI X.K n C Fi)) (hb : Binds X.K fd ps []) (hr : Room (k + 1) X.A) (hg : Gl X x) (hx : X.mg x = some (.ref C)) (ha : DA X (e :: es) fa) (hn : ArN fa n)
    (hdb : (x == ("__debug__" : Str)) = false := by decide) (he : starEach (e :: es) X.env = (false, eval e X.env) :: starEach es X.env := by rfl) (hpl : (backTo pos (starEach es X.env)).any (·.1) = false := by rfl) :
    DE X (.Call (.Name x p) (e :: es) [] pos) (eMake c Fi fa) := PEimp (pe_make hm F hr hg hx hb .nil pass0 ha hdb he hpl) (make_f T hn)
end
/-! ### __init__'s body -/
def selfOf (ρ : Env2) : Option Addr := match ρ[0]? with
  | some (some (Slot.val (D.bag x))) => some x
  | _ => none
theorem selfOf_some {ρ : Env2} {x : Addr} (h : selfOf ρ = some x) : ρ[0]? = some (some (.val (.bag x))) := by
  unfold selfOf at h
  split at h
  · cases h; assumption
  · cases h
def tI (K : PySem.W.Frag) (C : Addr) (F : Env2 → M (List D)) : TS := fun Dn σ H => ∃ E ρ G b fs b' x dx, SI K E σ ρ G H b ∧ E.H x = some (.ins C dx []) ∧ E.H dx = some (.own x) ∧ dx ≠ x ∧ E.b.at ≠ some x ∧ E.b.at ≠ some dx ∧ E.G x = none ∧ E.G dx = none ∧ selfOf ρ = some x ∧ F ρ b = some (fs, b') ∧
  ∀ σ' us G' H', Nxt E.G E.H E.b G' H' b' → RpL K G' us fs → Dn.nx σ' (SlX.slH H' x C dx (us.map some))
abbrev DI0 (X : Cx) (C : Addr) (st : List Stmt) (F : Env2 → M (List D)) : Prop := PSs X st (tI X.K C F)
def iSeq (F1 : Env2 → M Out) (F2 : Env2 → M (List D)) (ρ : Env2) : M (List D) := M.bind (F1 ρ) fun o => match o with
  | .nx ρ1 => M.guard (decide (selfOf ρ1 = selfOf ρ)) (F2 ρ1)
  | _ => M.fail
section
variable {X : Cx} {C : Addr} {st : Stmt} {rest : List Stmt} {F : Env2 → M Out} {F2 : Env2 → M (List D)} {pos : Pos}
theorem i_cons (h : DS X st F) (h2 : DI0 X C rest F2) : DI0 X C (st :: rest) (iSeq F F2) := by
  refine PSsimp (pss_cons h h2) ?_
  rintro D σ H ⟨E, ρ, G, b, fs, b', x, dx, I, h1, h2, h3, h4, h5, h6, h7, h8, e, q⟩
  obtain ⟨o, b1, e1, e2⟩ := M.bind_some e
  refine ⟨E, ρ, G, b, o, b1, I, e1, ?_⟩
  cases o with
  | nx ρ1 =>
    obtain ⟨hs, e3⟩ := M.guard_some e2
    exact fun σ' G' H' I' => ⟨E, ρ1, G', b1, fs, b', x, dx, I', h1, h2, h3, h4, h5, h6, h7, by rw [of_decide_eq_true hs]; exact h8, e3, q⟩
  | _ => cases e2
def gSl (K : PySem.W.Frag) (ta : TE) (f : Str) : TG := fun y σ H Q => ta σ H fun x H2 => ∃ a C dx p vs i, x = .ref a ∧ SlX.Slt H2 a C dx vs ∧ SlX.SCls K C ∧ SlX.Slot1 K C f p i ∧ Q σ (SlX.slH H2 a C dx (SlX.putS i y vs))
theorem pg_sl {o : Expr} {f : Str} {ta : TE} (ha : PE X o ta) : PG X (.Attribute o f pos) (gSl X.K ta f) := by
  refine ⟨fun pins s σ H y u Q I ry h => ?_⟩
  rw [assign_Attribute]
  refine wpAny_bind (wpAny_holding (thn (ha.run pins s σ H _ I h) fun ov s2 ⟨x, H2, I2, rx, a, C, dx, p, vs, i, ex, hsl, c, t, q2⟩ => ?_))
  subst ex
  obtain rfl : ov = Value.ref a := rx
  refine wpAny_bind (wpAny_standAt ?_)
  refine wpAny_bind (wpAny_holding (SlX.setslot_ok I2 hsl c t ry fun s3 I3 => ?_))
  exact wpAny_release ⟨σ, _, I3, q2⟩
def two2 : D → M (List D)
  | .tup [x, y] => M.ret [x, y]
  | _ => M.fail
/-- self.f, self.g = .., .. -/
theorem i_two {f0 f1 : Str} {p0 p1 : Addr} {x : Str} {e : Expr} {f : Env → M D} {q0 q1 pn0 pn1 pt : Pos} {kt : Nat} (ms : List Nat) (hc : X.calm = true) (cl : SlX.SCls X.K C) (t0 : SlX.Slot1 X.K C f0 p0 0) (t1 : SlX.Slot1 X.K C f1 p1 1) (hN : X.N[0]? = some x) (hv : Vis X.env.scope x)
    (he : DE X e f) (hd : (x == ("__debug__" : Str)) = false := by decide) (hcd : (x == ("__classdict__" : Str)) = false := by decide)
    (hs : swapsWithSole [.Tuple [.Attribute (.Name x pn0) f0 q0, .Attribute (.Name x pn1) f1 q1] kt pt] e pos.line X.env = pure false := by rfl) (hw : swappedStores [.Tuple [.Attribute (.Name x pn0) f0 q0, .Attribute (.Name x pn1) f1 q1] kt pt] e X.env = pure none := by rfl)
    (h1 : (assignEach [.Tuple [.Attribute (.Name x pn0) f0 q0, .Attribute (.Name x pn1) f1 q1] kt pt] X.env).map (·.2) = [assign (.Tuple [.Attribute (.Name x pn0) f0 q0, .Attribute (.Name x pn1) f1 q1] kt pt) X.env] := by rfl) :
    DI0 X C [.Assign [.Tuple [.Attribute (.Name x pn0) f0 q0, .Attribute (.Name x pn1) f1 q1] kt pt] e pos] (fun ρ => M.bind (f (view ms ρ)) two2) := by
  refine PSsimp (pss_one (ps_asg he (pg_tup hc (pgs_cons (pg_sl (pe_var hN hv hd hcd)) (pgs_cons (pg_sl (pe_var hN hv hd hcd)) pgs_nil))) hs hw h1)) ?_
  rintro Dn σ H ⟨E, ρ, G, b, fs, b', x, dx, I, k1, k2, k3, k4, k5, k6, k7, k8, e, q⟩
  obtain ⟨d, b1, e1, e2⟩ := M.bind_some e
  refine ⟨_, _, b, d, b1, I.rs ms, I.gp2 ms, I.gpb ms, e1, fun v G1 H1 n1 r => ?_⟩
  obtain ⟨G2, I2, r2⟩ := I.after n1 r
  have hsf := selfOf_some k8
  cases r2 with
  | @tup t vs ds hq rl =>
    cases rl with
    | nil => cases e2
    | @cons v0 _ d0 _ r0 rl =>
      cases rl with
      | nil => cases e2
      | @cons v1 _ d1 _ r1 rl =>
        cases rl with
        | cons _ _ => cases e2
        | nil =>
          cases e2
          obtain ⟨sv, hsv, hrv⟩ := I.val 0 _ hsf
          cases hrv
          have hx := I2.keep x _ k1 k4
          refine ⟨t, [v0, v1], rfl, Same.sqt I2.fz hq, rfl, v0, [v1], rfl, .ref x, hsv, x, C, dx, p0, [], 0, rfl, .inl ⟨hx, rfl⟩, cl, t0, v1, [], rfl, .ref x, hsv, x, C, dx, p1, _, 1, rfl, SlX.slH_slt k3, cl, t1, rfl, ?_⟩
          rw [SlX.slH_twice k3]
          exact q σ [v0, v1] G2 H1 I2.nxt (.cons r0 (.cons r1 .nil))
  | _ => cases e2
def two2s : D → M (List D)
  | .tup [x, y] => M.ret [y, x]
  | _ => M.fail
/-- self.f, self.g = .., .. -/
theorem i_twoS {f0 f1 : Str} {p0 p1 : Addr} {x : Str} {e : Expr} {f : Env → M D} {q0 q1 pn0 pn1 pt : Pos} {kt : Nat} (ms : List Nat) (hc : X.calm = true) (cl : SlX.SCls X.K C) (t0 : SlX.Slot1 X.K C f0 p0 1) (t1 : SlX.Slot1 X.K C f1 p1 0) (hN : X.N[0]? = some x) (hv : Vis X.env.scope x)
    (he : DE X e f) (hd : (x == ("__debug__" : Str)) = false := by decide) (hcd : (x == ("__classdict__" : Str)) = false := by decide)
    (hs : swapsWithSole [.Tuple [.Attribute (.Name x pn0) f0 q0, .Attribute (.Name x pn1) f1 q1] kt pt] e pos.line X.env = pure false := by rfl) (hw : swappedStores [.Tuple [.Attribute (.Name x pn0) f0 q0, .Attribute (.Name x pn1) f1 q1] kt pt] e X.env = pure none := by rfl)
    (h1 : (assignEach [.Tuple [.Attribute (.Name x pn0) f0 q0, .Attribute (.Name x pn1) f1 q1] kt pt] X.env).map (·.2) = [assign (.Tuple [.Attribute (.Name x pn0) f0 q0, .Attribute (.Name x pn1) f1 q1] kt pt) X.env] := by rfl) :
    DI0 X C [.Assign [.Tuple [.Attribute (.Name x pn0) f0 q0, .Attribute (.Name x pn1) f1 q1] kt pt] e pos] (fun ρ => M.bind (f (view ms ρ)) two2s) := by
  refine PSsimp (pss_one (ps_asg he (pg_tup hc (pgs_cons (pg_sl (pe_var hN hv hd hcd)) (pgs_cons (pg_sl (pe_var hN hv hd hcd)) pgs_nil))) hs hw h1)) ?_
  rintro Dn σ H ⟨E, ρ, G, b, fs, b', x, dx, I, k1, k2, k3, k4, k5, k6, k7, k8, e, q⟩
  obtain ⟨d, b1, e1, e2⟩ := M.bind_some e
  refine ⟨_, _, b, d, b1, I.rs ms, I.gp2 ms, I.gpb ms, e1, fun v G1 H1 n1 r => ?_⟩
  obtain ⟨G2, I2, r2⟩ := I.after n1 r
  have hsf := selfOf_some k8
  cases r2 with
  | @tup t vs ds hq rl =>
    cases rl with
    | nil => cases e2
    | @cons v0 _ d0 _ r0 rl =>
      cases rl with
      | nil => cases e2
      | @cons v1 _ d1 _ r1 rl =>
        cases rl with
        | cons _ _ => cases e2
        | nil =>
          cases e2
          obtain ⟨sv, hsv, hrv⟩ := I.val 0 _ hsf
          cases hrv
          have hx := I2.keep x _ k1 k4
          refine ⟨t, [v0, v1], rfl, Same.sqt I2.fz hq, rfl, v0, [v1], rfl, .ref x, hsv, x, C, dx, p0, [], 1, rfl, .inl ⟨hx, rfl⟩, cl, t0, v1, [], rfl, .ref x, hsv, x, C, dx, p1, _, 0, rfl, SlX.slH_slt k3, cl, t1, rfl, ?_⟩
          rw [SlX.slH_twice k3]
          exact q σ [v1, v0] G2 H1 I2.nxt (.cons r1 (.cons r0 .nil))
  | _ => cases e2
end
end DL
set_option Elab.async false
set_option maxRecDepth 100000
set_option autoImplicit false
set_option linter.unusedVariables false
set_option maxHeartbeats 4000000
namespace DL
open PySem L2 PySem.Spec PyProof.Rows
/-! ### enumerate(text) -/
def Ites (x : Str) : It := ⟨fun i _ => i < x.cps.size, fun i H v H' => ∃ T c, v = .ref T ∧ H T = none ∧ H' = upd H T (.tup [.int (i : Nat), .str ⟨#[c]⟩]) ∧ x.cps[i]? = some c, fun i _ => x.cps.size ≤ i⟩
def isTy (ty : String) : Prop := ty = "str_ascii_iterator" ∨ ty = "str_iterator"
theorem draws_ty {prog : Program} {w : World} {A : Around} (hh : A.handled = none) (it : Addr) (x : Str) (t : Tok) {ty : String} (hty : isTy ty) :
    Draws prog w A it [it] x.cps.size (fun i v => ∃ c u, x.cps[i]? = some c ∧ v = .str ⟨#[c]⟩ u) (fun i h => h.IsStrIter it ty x t i) := by
  rcases hty with e | e
  · rw [e]; exact Draws.strAscii hh it x t
  · rw [e]; exact Draws.strWide hh it x t
theorem nextS_end {prog : Program} {w : World} {A : Around} {E : Value → Shared → Prop} {s : Shared} {it : Addr} {x : Str} {t : Tok} {ty : String} {i : Nat} {Q : Value → Shared → Prop} (hty : isTy ty) (hh : A.handled = none) (hst : s.heap.IsStrIter it ty x t i) (hx : x.cps[i]? = none)
    (hE : ∀ h' e, Heap.ExtBut it s.heap h' → (∃ o, h'.get? e = some o ∧ o.cls = .type "StopIteration") → E (.ref e) { s with heap := h' }) : wpAny (model prog w) A (Builtin.SmallTypes.nextOf (.ref it)) Q E s := by
  rcases hty with rfl | rfl
  · exact wpAny_nextOf_ascii_end hh hst hx hE
  · exact wpAny_nextOf_wide_end hh hst hx hE
theorem enumS_end {prog : Program} {w : World} {A : Around} {E : Value → Shared → Prop} {s : Shared} {e it : Addr} {x : Str} {t : Tok} {ty : String} {i : Nat} {j : Int} {old : Value} {Q : Option Value → Shared → Prop} (hty : isTy ty) (hh : A.handled = none)
    (he : IsEnum s.heap e it j old) (hst : s.heap.IsStrIter it ty x t i) (hx : x.cps[i]? = none) (hQ : ∀ h', Heap.ExtBut it s.heap h' → Q none { s with heap := h' }) : wpAny (model prog w) A (pyNext (.ref e)) Q E s := by
  have hT : s.TypeIs (.ref e) "enumerate" := ⟨_, he, rfl⟩
  unfold pyNext
  refine wpAny_bind (wpAny_attempt (wpAny_callSpecial?_slot (name := Str.ofString "__next__") hT F.slot_enumerate_next
    (wpAny_call_entry F.slot_enumerate_next hT F.entry_enumerate_next ?_ (F.args_enumerate_next_1 _))))
  show wpAny _ _ (field (.ref e) 2 >>= _) _ _ _
  refine wpAny_bind (wpAny_field he rfl (x := .ref it) rfl ?_)
  refine wpAny_bind (nextS_end hty hh hst hx fun h' z he' hx' => ?_)
  obtain ⟨o, ho, hc⟩ := hx'
  refine wpAny_bind (wpAny_isInstance (T := "StopIteration") (b := true) ⟨o, ho, hc⟩ isSubtype_stop ?_)
  exact wpAny_pure (hQ _ he')
theorem turn_enumS {P : Program} {w : World} {K : PySem.W.Frag} {elts : List Expr} {kk : Nat} {tpos : Pos} (x : Str) (t : Tok) (ty : String) (hty : isTy ty) (e it : Addr) :
    Turn P w K (.Tuple elts kk tpos) (Ites x) [e, it] e (fun i h => (∃ old, IsEnum h e it ((i : Nat) : Int) old) ∧ h.IsStrIter it ty x t i ∧ e ≠ it) where
  mem := by simp
  obj := fun i h st b hb => by
    obtain ⟨⟨old, he⟩, ⟨o, ho, hc, hd⟩, _⟩ := st
    have e' : b = e ∨ b = it := by simpa using hb
    rcases e' with z | z
    · rw [z]; exact ⟨_, he, fun v q => nomatch q⟩
    · rw [z]; exact ⟨o, ho, fun v q => by rw [hd] at q; cases q⟩
  keep := fun i h h' st k => let ⟨⟨old, he⟩, ⟨o, ho, r⟩, hne⟩ := st; ⟨⟨old, k e (by simp) _ he⟩, ⟨o, k it (by simp) o ho, r⟩, hne⟩
  item := by
    intro X hP hw hK hc i pins s σ H E I hf st hg
    subst hP hw hK
    obtain ⟨⟨old, he⟩, hit, hne⟩ := st
    have hel : e < s.heap.objs.size := Heap.lt_size he
    have hil : it < s.heap.objs.size := by obtain ⟨_, q, _⟩ := hit; exact Heap.lt_size q
    have hh : X.A.in1.handled = none := I.ok.hd hc
    refine wpAny_pyNext_enum_itemD (draws_ty hh it x t hty) he hit hg hne (by simpa using hne) fun u h' tk hp ho hit' hT hsz hk => ?_
    obtain ⟨c, tu, hcx, rfl⟩ := hp
    refine ⟨_, rfl, wpAny_letOwnedTupleGo_enum (s := { s with heap := h', toks := tk + 1 }) ho fun h'' he' sb => ?_⟩
    have hT2 : h''.get? s.heap.objs.size = some { cls := .type "tuple", data := .seq #[.int i tk, .str ⟨#[c]⟩ tu] } := (sb.2 _ (Nat.ne_of_gt hel)).trans hT
    have new : ObjOk X.prog X.w (upd H s.heap.objs.size (.tup [.int (i : Nat), .str ⟨#[c]⟩])) h'' s.heap.objs.size (.tup [.int (i : Nat), .str ⟨#[c]⟩]) :=
      ⟨by show 2 ≤ sizeLine; decide, [.int i tk, .str ⟨#[c]⟩ tu], .cons ⟨_, rfl⟩ (.cons ⟨_, rfl⟩ .nil), ⟨_, hT2, rfl, _, rfl⟩⟩
    have I1 : Inv X pins σ (upd H s.heap.objs.size (.tup [.int (i : Nat), .str ⟨#[c]⟩])) { s with heap := h'', toks := tk + 1 } :=
      I.turnedNew (ch := [e, it]) (fun b ob hb q => (sb.2 b (fun z => hb (by simp [z]))).trans (hk b ob (fun z => hb (by simp [z])) (fun z => hb (by simp [z])) q)) hf (Nat.le_refl _) new
    refine ⟨.ref s.heap.objs.size, _, I1, rfl, ⟨_, c, rfl, I.hok.fresh (Nat.le_refl _), rfl, hcx⟩, ⟨⟨.str ⟨#[c]⟩ tu, ?_⟩, ?_, hne⟩, fun b hb => ?_⟩
    · have e1 : ((i + 1 : Nat) : Int) = (i : Int) + 1 := by omega
      rw [e1]; exact he'
    · obtain ⟨o, q, r⟩ := hit'
      exact ⟨o, (sb.2 it (Ne.symm hne)).trans q, r⟩
    · have hb' : b < s.heap.objs.size := by
        have e' : b = e ∨ b = it := by simpa using hb
        rcases e' with z | z
        · rw [z]; exact hel
        · rw [z]; exact hil
      rw [upd_ne (Nat.ne_of_lt hb')]
      exact (hf b hb).1
  done := by
    intro X hP hw hK hc i pins s σ H E I hf st hg
    subst hP hw hK
    obtain ⟨⟨old, he⟩, hit, hne⟩ := st
    obtain ⟨f0, f1, f2, f3, f4, f5⟩ := hf it (by simp)
    exact enumS_end hty (I.ok.hd hc) he hit (Array.getElem?_eq_none hg) fun h' eb => ⟨rfl, I.turned (t' := s.toks) (fun b o hb q => eb b o hb q) f0 f1 f3 f4 f5⟩
  self := fun A i s Q E st h => let ⟨⟨_, he⟩, _⟩ := st; wpAny_pyIter_enum he h
def iEnumS (ta : TA) : TI := fun σ H R => ta σ H fun vs H1 => ∃ x, vs = [.str x] ∧ R (Ites x) H1
theorem pi_enumS {X : Cx} {e : Expr} {ta : TA} {p pos tpos : Pos} {elts : List Expr} {kk : Nat} (hg : Gl X "enumerate") (hm : X.mg "enumerate" = none) (ha : PA X [e] ta) (hs : starEach [e] X.env = [(false, eval e X.env)] := by rfl) :
    PI X (.Tuple elts kk tpos) (.Call (.Name "enumerate" p) [e] [] pos) (iEnumS ta) := by
  refine ⟨fun pins s σ H R I h => ?_⟩
  refine Call_ (ld_blt I hg hm boot_enumerate (PyProof.Rows.callWith_type1 (thn (ha.run pos pins s σ H _ I h) fun us s1 ⟨vs, H1, I1, r1, q1⟩ => ?_) hs rfl))
  obtain ⟨x, ex, q⟩ := q1
  subst ex
  cases r1 with
  | cons r rr =>
    cases rr
    obtain ⟨t, rfl⟩ := r
    have hty : isTy (strIterType x) := by
      unfold strIterType
      split
      · exact .inl rfl
      · exact .inr rfl
    refine call_enumerate_str fun h' he hit hsz hk => wpAny_pyIter_enum he ?_
    have I2 : Inv X pins σ H1 { s1 with heap := h' } := I1.kept (t' := s1.toks) hk
    refine ⟨s1.heap.objs.size + 1, [s1.heap.objs.size + 1, s1.heap.objs.size], _, _, H1, rfl, I2, turn_enumS x t _ hty (s1.heap.objs.size + 1) s1.heap.objs.size, ⟨⟨.none, he⟩, hit, Nat.succ_ne_self _⟩, fun b hb => ?_, q⟩
    have e' : b = s1.heap.objs.size + 1 ∨ b = s1.heap.objs.size := by simpa using hb
    have hle : s1.heap.objs.size ≤ b := by
      rcases e' with z | z
      · rw [z]; exact Nat.le_add_right _ _
      · rw [z]; exact Nat.le_refl _
    exact I1.fpOk hle (I1.hok.fresh hle)
/-- the pairs -/
def pairsD (ds : List D) : List D := (List.range ds.length).zipWith (fun (i : Nat) d => .tup [.int (i : Int), d]) ds
theorem pairsD_len (ds : List D) : (pairsD ds).length = ds.length := by simp [pairsD]
theorem pairsD_get {ds : List D} {i : Nat} {d : D} (h : (pairsD ds)[i]? = some d) : ∃ y, ds[i]? = some y ∧ d = .tup [.int (i : Nat), y] := by
  unfold pairsD at h
  rw [List.getElem?_zipWith] at h
  cases e : ds[i]? with
  | none => rw [e] at h; split at h <;> simp_all
  | some y =>
    have hi : i < ds.length := (List.getElem?_eq_some_iff.mp e).1
    rw [e, List.getElem?_range hi] at h
    cases h
    exact ⟨y, rfl, rfl⟩
theorem yl_enumS {K : PySem.W.Frag} {G : Hp} (x : List Nat) : Yl K G (Ites ⟨x.toArray⟩) (pairsD (x.map fun c => .str [c])) := by
  intro i G1 H1 b s1 s2 ob
  refine ⟨fun d hd => ?_, fun hl => ?_⟩
  · obtain ⟨y, h1, rfl⟩ := pairsD_get hd
    rw [List.getElem?_map] at h1
    cases e : x[i]? with
    | none => rw [e] at h1; cases h1
    | some c =>
      rw [e] at h1
      cases h1
      refine ⟨(by
        have := (List.getElem?_eq_some_iff.mp e).1
        show i < x.toArray.size
        simpa using this), ?_⟩
      rintro v H' ⟨T, c', rfl, hT, rfl, hc⟩
      have : c' = c := by
        have hc' : x[i]? = some c' := by simpa using hc
        rw [e] at hc'; exact (Option.some.inj hc').symm
      subst this
      refine ⟨upd G1 T _, Nxt.newF s2 ob hT, .tup (SqT.of upd_same) (.cons (.int _) (.cons (.str [c']) .nil))⟩
  · rw [pairsD_len] at hl
    simpa [Ites] using hl
theorem yl_enum {K : PySem.W.Frag} {G : Hp} {a : Addr} {vs : List V} {ds : List D} (h : G a = some (.lst vs)) (r : RpL K G vs ds) : Yl K G (Ite K a) (pairsD ds) := by
  intro i G1 H1 b s1 s2 ob
  have hq : SqL K H1 a vs := SqL.of (s2 _ _ (s1 _ _ h))
  refine ⟨fun d hd => ?_, fun hl => ⟨vs, hq, by rw [r.length]; rw [pairsD_len] at hl; exact hl⟩⟩
  obtain ⟨y, h1, rfl⟩ := pairsD_get hd
  obtain ⟨v, h2, h3⟩ := r.get h1
  refine ⟨⟨vs, v, hq, h2⟩, ?_⟩
  rintro x H' ⟨T, z, rfl, hT, rfl, hx⟩
  have e := hx vs hq
  rw [h2] at e
  cases e
  have n := Nxt.newF (o := .tup [.int (i : Nat), v]) s2 ob hT
  exact ⟨_, n, .tup (SqT.of upd_same) (.cons (.int _) (.cons ((h3.mono s1).mono n.gg) .nil))⟩
def enumD : List D → M (List D)
  | [.lst xs] => M.ret (pairsD xs)
  | [.str x] => M.ret (pairsD (x.map fun c => .str [c]))
  | _ => M.fail
theorem di_enum {X : Cx} {e : Expr} {f : Env → M (List D)} {p pos tpos : Pos} {elts : List Expr} {kk : Nat} (hg : Gl X "enumerate") (hm : X.mg "enumerate" = none) (ha : DA X [e] f) (hs : starEach [e] X.env = [(false, eval e X.env)] := by rfl) :
    DI X (.Tuple elts kk tpos) (.Call (.Name "enumerate" p) [e] [] pos) (fun ρ => M.bind (f ρ) enumD) := by
  have pl := pi_enum (elts := elts) (kk := kk) (tpos := tpos) (p := p) (pos := pos) hg hm ha hs
  have px := pi_enumS (elts := elts) (kk := kk) (tpos := tpos) (p := p) (pos := pos) hg hm ha hs
  refine ⟨fun pins s σ H R I q0 => ?_⟩
  obtain ⟨ρ, G, b, ds, b', rs, fz, ob, e, q⟩ := q0
  obtain ⟨xs, b1, e1, e2⟩ := M.bind_some e
  unfold enumD at e2
  split at e2
  · cases e2
    refine pl.run pins s σ H R I ⟨ρ, G, b, _, b', rs, fz, ob, e1, fun vs G' H' n r => ?_⟩
    obtain ⟨v, rfl, r1⟩ := r.one
    cases r1 with
    | lst h1 h2 => exact ⟨_, _, rfl, SqL.of (n.fz _ _ h1), q _ G' H' n (yl_enum h1 h2)⟩
  · cases e2
    refine px.run pins s σ H R I ⟨ρ, G, b, _, b', rs, fz, ob, e1, fun vs G' H' n r => ?_⟩
    obtain ⟨v, rfl, r1⟩ := r.one
    cases r1 with
    | str => exact ⟨_, rfl, q _ G' H' n (yl_enumS _)⟩
  · cases e2
def iEnumM (f : Env → M (List D)) : Env → M (List D) := fun ρ => M.bind (f ρ) enumD
end DL
set_option Elab.async false
set_option maxRecDepth 100000
set_option autoImplicit false
set_option linter.unusedVariables false
set_option maxHeartbeats 4000000
namespace DL
open PySem L2 PySem.Spec PyProof.Rows
/-! ### isinstance(x, T), T a built-in type -/
def tyD : D → Option String
  | .non => some "NoneType" | .bl _ => some "bool" | .int _ => some "int" | .str _ => some "str" | .lst _ => some "list" | .tup _ => some "tuple" | .dct _ _ => some "dict" | _ => none
def isT (t T : String) : Bool := t == T || (t == "bool" && T == "int")
theorem tyD_of {K : PySem.W.Frag} {G H : Hp} {v : V} {d : D} {t : String} (r : Rp K G v d) (s : Same G H) (h : tyD d = some t) : TyX K H v (.type t) := by
  cases r with
  | non => cases h; exact .base .non
  | bl b => cases h; exact .base (.bl b)
  | int i => cases h; exact .base (.int i)
  | str x => cases h; exact .base (.str _)
  | lst h1 h2 => cases h; exact .base (.lst (s _ _ h1))
  | tup h1 h2 =>
    cases h
    rcases Same.sqt s h1 with (h1 | ⟨o, h1⟩) | ⟨o, its, n, h1, h2, _⟩
    · exact .base (.tup h1)
    · exact .fTuple h1
    · exact .kTuple h1 h2
  | dct h1 h2 h3 => cases h; exact .base (.dK (s _ _ h1))
  | _ => cases h
def isiD (T : String) (d : D) : M D := match tyD d with
  | some t => M.ret (.bl (isT t T))
  | none => M.fail
def tys : List String := ["NoneType", "bool", "int", "str", "list", "tuple", "dict"]
theorem kit_isT {K : PySem.W.Frag} : ∀ t ∈ tys, ∀ T ∈ tys, PySem.W.kitOne K (.type t) (.type T) = some (isT t T) := by
  intro t ht T hT
  simp only [tys, List.mem_cons, List.not_mem_nil, or_false] at ht hT
  rcases ht with rfl | rfl | rfl | rfl | rfl | rfl | rfl <;> rcases hT with rfl | rfl | rfl | rfl | rfl | rfl | rfl <;> rfl
theorem tyD_mem {d : D} {t : String} (h : tyD d = some t) : t ∈ tys := by
  cases d <;> cases h <;> decide
section
variable {X : Cx} {e : Expr} {f : Env → M D} {p p2 pos : Pos}
theorem d_isi {T : String} {x : Str} (hT : T ∈ tys) (hg : Gl X "isinstance") (hm : X.mg "isinstance" = none) (hgt : Gl X x) (hmt : X.mg x = none) (hvt : bootBuiltins x = some (.type T)) (he : DE X e f) (hnt : x ≠ "__name__" := by decide) (hdt : (x == ("__debug__" : Str)) = false := by decide)
    (hs : starEach [e, .Name x p2] X.env = (false, eval e X.env) :: starEach [.Name x p2] X.env := by rfl) (hs2 : starEach [.Name x p2] X.env = (false, eval (.Name x p2) X.env) :: starEach [] X.env := by rfl)
    (hpl : (backTo pos (starEach [.Name x p2] X.env)).any (·.1) = false := by rfl) :
    DE X (.Call (.Name "isinstance" p) [e, .Name x p2] [] pos) (e1 (isiD T) f) := by
  have pt : PE X (.Name x p2) (tC (.ty T)) := ⟨fun _ _ _ H _ I h => ld_blt I hgt hmt hvt ⟨.ty T, H, I, rfl, h⟩ hnt hdt⟩
  refine PEimp (pe_callB call_isi hg hm (by decide +kernel) (pa_cons he (pa_cons pt pa_nil hs2) hs) (he := hs) (hpl := hpl)) ?_
  rintro σ H Q ⟨ρ, G, b, d, b', rs, fz, ob, e, q⟩
  obtain ⟨x, b1, e1, e2⟩ := M.bind_some e
  refine ⟨ρ, G, b, x, b1, rs, fz, ob, e1, fun v G1 H1 n1 r => ?_⟩
  unfold isiD at e2
  cases et : tyD x with
  | none => rw [et] at e2; cases e2
  | some t =>
    rw [et] at e2
    cases e2
    exact ⟨v, .ty T, .type t, .type T, _, rfl, .ty T, tyD_of r n1.fz et, kit_isT t (tyD_mem et) T hT, q _ G1 H1 n1 (.bl _)⟩
/-! ### all, any -/
def blsD : List D → Option (List Bool)
  | [] => some []
  | .bl b :: r => (blsD r).map (b :: ·)
  | _ => none
theorem blsD_of {K : PySem.W.Frag} {G : Hp} : ∀ {vs : List V} {ds : List D} {bs : List Bool}, RpL K G vs ds → blsD ds = some bs → vs = bs.map V.bl
  | _, _, _, .nil, h => by cases h; rfl
  | _, _, bs, .cons (d := d) (ds := ds) r rl, h => by
    cases r with
    | bl b =>
      obtain ⟨bs', h1, rfl⟩ := Option.map_eq_some_iff.mp (show (blsD ds).map (b :: ·) = some bs from h)
      rw [blsD_of rl h1]; rfl
    | _ => cases h
def allF : List D → M D
  | [.lst xs] => match blsD xs with
    | some bs => M.ret (.bl (bs.all id))
    | none => M.fail
  | _ => M.fail
def anyF : List D → M D
  | [.lst xs] => match blsD xs with
    | some bs => M.ret (.bl (bs.any id))
    | none => M.fail
  | _ => M.fail
theorem snd_all : SndC X.K (rAll X.K) allF := by
  intro G H b vs ds d b' Q r fz ob e q
  unfold allF at e
  split at e
  · rename_i xs
    obtain ⟨v, rfl, r1⟩ := r.one
    cases r1 with
    | lst h1 h2 =>
      cases hb : blsD xs with
      | none => rw [hb] at e; cases e
      | some bs =>
        rw [hb] at e
        cases e
        cases blsD_of h2 hb
        exact ⟨_, bs, rfl, SqL.of (fz _ _ h1), q _ _ _ (Nxt.refl fz ob) (.bl _)⟩
  · cases e
theorem snd_any : SndC X.K (rAny X.K) anyF := by
  intro G H b vs ds d b' Q r fz ob e q
  unfold anyF at e
  split at e
  · rename_i xs
    obtain ⟨v, rfl, r1⟩ := r.one
    cases r1 with
    | lst h1 h2 =>
      cases hb : blsD xs with
      | none => rw [hb] at e; cases e
      | some bs =>
        rw [hb] at e
        cases e
        cases blsD_of h2 hb
        exact ⟨_, bs, rfl, SqL.of (fz _ _ h1), q _ _ _ (Nxt.refl fz ob) (.bl _)⟩
  · cases e
variable {fa : Env → M (List D)}
theorem d_all (hc : X.calm = true) (hg : Gl X "all") (hm : X.mg "all" = none) (ha : DA X [e] fa) (he : starEach [e] X.env = (false, eval e X.env) :: starEach [] X.env := by rfl) : DE X (.Call (.Name "all" p) [e] [] pos) (fun ρ => M.bind (fa ρ) allF) :=
  d_callB (cr_all hc) snd_all hg hm (by decide +kernel) ha (he := he)
theorem d_any (hc : X.calm = true) (hg : Gl X "any") (hm : X.mg "any" = none) (ha : DA X [e] fa) (he : starEach [e] X.env = (false, eval e X.env) :: starEach [] X.env := by rfl) : DE X (.Call (.Name "any" p) [e] [] pos) (fun ρ => M.bind (fa ρ) anyF) :=
  d_callB (cr_any hc) snd_any hg hm (by decide +kernel) ha (he := he)
/-! ### str(int) -/
def strF : List D → M D
  | [.int i] => M.guard (decide (i.natAbs.log2 < 1920)) (M.ret (.str ((toString i : Str).cps.toList)))
  | _ => M.fail
theorem snd_str : SndC X.K (fun xs H Q => ∃ i, xs = [.int i] ∧ i.natAbs.log2 < 1920 ∧ Q (.str (toString i)) H) strF := by
  intro G H b vs ds d b' Q r fz ob e q
  unfold strF at e
  split at e
  · obtain ⟨v, rfl, r1⟩ := r.one
    cases r1
    obtain ⟨c, e⟩ := M.guard_some e
    cases e
    refine ⟨_, rfl, of_decide_eq_true c, q _ _ _ (Nxt.refl fz ob) ?_⟩
    exact .str _
  · cases e
theorem d_cstr (hg : Gl X "str") (hm : X.mg "str" = none) (ha : DA X [e] fa) (he : starEach [e] X.env = (false, eval e X.env) :: starEach [] X.env := by rfl) : DE X (.Call (.Name "str" p) [e] [] pos) (fun ρ => M.bind (fa ρ) strF) :=
  d_callTy call_str_int snd_str hg hm (by decide +kernel) ha (he := he)
/-! ### a chain of two comparisons -/
def eChain (h h' : D → D → M D) (f g k : Env → M D) : Env → M D := fun ρ => M.bind (f ρ) fun x => M.bind (g ρ) fun y => M.bind (h x y) fun z => M.bind (asB z) fun t => if t = true then M.bind (k ρ) (h' y) else M.ret (.bl false)
theorem chain_f {K : PySem.W.Frag} {r r' : R2} {h h' : D → D → M D} {f g k : Env → M D} (hs : SndR K r h) (hs' : SndR K r' h') : ∀ σ H Q, tF K (eChain h h' f g k) σ H Q → tChain r r' (tF K f) (tF K g) (tF K k) σ H Q := by
  rintro σ H Q ⟨ρ, G, b, d, b', rs, fz, ob, e, q⟩
  obtain ⟨x, b1, e1, e⟩ := M.bind_some e
  obtain ⟨y, b2, e2, e⟩ := M.bind_some e
  obtain ⟨z, b3, e3, e⟩ := M.bind_some e
  obtain ⟨t, b4, e4, e⟩ := M.bind_some e
  obtain ⟨rfl, rfl⟩ := asB_some e4
  refine ⟨ρ, G, b, x, b1, rs, fz, ob, e1, fun v1 G1 H1 n1 r1 => ?_⟩
  refine ⟨ρ, G1, b1, y, b2, rs.mono n1.gg, n1.fz, n1.bag, e2, fun v2 G2 H2 n2 r2 => ?_⟩
  refine hs G2 H2 b2 v1 v2 x y _ b3 _ (r1.mono n2.gg) r2 n2.fz n2.bag e3 fun v3 G3 H3 n3 r3 => ?_
  cases r3
  refine ⟨t, rfl, ?_⟩
  cases t with
  | false =>
    cases e
    exact q _ G3 H3 ((n1.trans n2).trans n3) (.bl _)
  | true =>
    obtain ⟨w, b5, e5, e6⟩ := M.bind_some e
    refine ⟨ρ, G3, b3, w, b5, rs.mono ((n1.trans n2).trans n3).gg, n3.fz, n3.bag, e5, fun v5 G5 H5 n5 r5 => ?_⟩
    exact hs' G5 H5 b5 v2 v5 y w d b' Q (r2.mono (n3.trans n5).gg) r5 n5.fz n5.bag e6 fun v G' H' n6 r6 => q v G' H' ((((n1.trans n2).trans n3).trans n5).trans n6) r6
theorem d_chain {op op' : CmpOp} {r r' : R2} {h h' : D → D → M D} {a b c : Expr} {f g k : Env → M D} (ho : OpR X (compareOp op) r) (ho' : OpR X (compareOp op') r') (hs : SndR X.K r h) (hs' : SndR X.K r' h') (ha : DE X a f) (hb : DE X b g) (hc : DE X c k)
    (hm : lastMarks [op, op'] [b, c] = false := by with_unfolding_all rfl) : DE X (.Compare a [op, op'] [b, c] pos) (eChain h h' f g k) := PEimp (pe_chain ho ho' ha hb hc hm) (chain_f hs hs')
theorem t_chain {op op' : CmpOp} {r r' : R2} {h h' : D → D → M D} {a b c : Expr} {f g k : Env → M D} (ho : OpR X (compareOp op) r) (ho' : OpR X (compareOp op') r') (hs : SndR X.K r h) (hs' : SndR X.K r' h') (ha : DE X a f) (hb : DE X b g) (hc : DE X c k)
    (hm : lastMarks [op, op'] [b, c] = false := by with_unfolding_all rfl) : DT X (.Compare a [op, op'] [b, c] pos) (fun ρ => M.bind (eChain h h' f g k ρ) asB) := by
  refine PTimp (pt_chain ho ho' ha hb hc hm) ?_
  rintro σ H Q ⟨ρ, G, b, d, b', rs, fz, ob, e, q⟩
  obtain ⟨z, b1, e1, e2⟩ := M.bind_some e
  refine chain_f hs hs' σ H _ ⟨ρ, G, b, z, b1, rs, fz, ob, e1, fun v G1 H1 n1 r1 => ?_⟩
  obtain ⟨rfl, rfl⟩ := asB_some e2
  cases r1
  exact ⟨_, rfl, q G1 H1 n1⟩
end
end DL
set_option Elab.async false
set_option maxRecDepth 100000
set_option autoImplicit false
set_option linter.unusedVariables false
set_option maxHeartbeats 4000000
namespace DL
open PySem L2 PySem.Spec PyProof.Rows PySem.Calls PySem.NumText
/-! ### int(text, 2), texts of two characters -/
structure BinOk (x : PySem.Str) (n : Int) : Prop where
  s : (numSeenOf x).length ≤ 640
  r : (int_private% "readNumeral") 0 2 (numSeenOf x) = (int_private% "Numeral.value") n
  a : ((numSeenOf x).length == (numTextOf x).length) = true
theorem gives_bin {x : PySem.Str} {u t : Tok} {n : Int} (hk : BinOk x n) : Gives (Builtin.«int.__new__» ⟨[.type "int", .str x u, .int 2 t], []⟩) (.int n) :=
  .of_wp fun M A E s Q hQ => by
    obtain ⟨hp, g, d, tk, os⟩ := s
    have f1 := F.conv_sub_int
    have f2 := F.madeHere_int
    have f6 : typeOf (.str x u) = pure (.type "str") := rfl
    repeat (any_goals (first
      | assumption
      | ((with_reducible show wpAny _ _ ((int_private% "intFromText") _ _ _) _ _ _); refine Hx.wp_textB hk.s hk.r hk.a ?_)
      | wp_step))
    all_goals first | exact ⟨_, rfl, hQ⟩ | skip
theorem call_bin {prog : Program} {w : World} {A : Around} {E : Value → Shared → Prop} {s : Shared} {Q : Value → Shared → Prop} {x : PySem.Str} {u t : Tok} {n : Int} (hk : BinOk x n)
    (hQ : Q (.int n s.toks) { s with toks := s.toks + 1 }) : wpAny (model prog w) A (call (.type "int") [.str x u, .int 2 t]) Q E s :=
  callType_new F.called_int F.newNe_int (Hx.typeCall_int_2 _ _) (Hx.newCall_int_2 _ _) (fun obj => F.initArgs_range_2 obj _ _) F.entry_int_new (gives_bin hk).meets (show (Made.int n).post _ s from ⟨rfl, hQ⟩)
theorem RpL.two {K : PySem.W.Frag} {G : Hp} {vs : List V} {d e : D} (r : RpL K G vs [d, e]) : ∃ v w, vs = [v, w] ∧ Rp K G v d ∧ Rp K G w e := by
  cases r with
  | cons a r => obtain ⟨w, rfl, b⟩ := r.one; exact ⟨_, _, rfl, a, b⟩
theorem bin00 : BinOk ⟨#[48, 48]⟩ 0 := ⟨by decide +kernel, (readNumeral_eq 0 2 _).trans (by kernel_rfl), by decide +kernel⟩
theorem bin01 : BinOk ⟨#[48, 49]⟩ 1 := ⟨by decide +kernel, (readNumeral_eq 0 2 _).trans (by kernel_rfl), by decide +kernel⟩
theorem bin10 : BinOk ⟨#[49, 48]⟩ 2 := ⟨by decide +kernel, (readNumeral_eq 0 2 _).trans (by kernel_rfl), by decide +kernel⟩
theorem bin11 : BinOk ⟨#[49, 49]⟩ 3 := ⟨by decide +kernel, (readNumeral_eq 0 2 _).trans (by kernel_rfl), by decide +kernel⟩
def isBin (c : Nat) : Bool := c == 48 || c == 49
def binF : List D → M D
  | [.str [a, c], .int i] => M.guard (i == 2 && (isBin a && isBin c)) (M.ret (.int (((a - 48) * 2 + (c - 48) : Nat) : Int)))
  | _ => M.fail
theorem snd_bin {X : Cx} : CallR X (.type "int") (fun xs H Q => ∃ x n, xs = [.str x, .int 2] ∧ BinOk x n ∧ Q (.int n) H) := by
  intro pins s σ H xs us Q I r h
  obtain ⟨x, n, rfl, hk, q⟩ := h
  obtain ⟨u, w', rfl, r1, r2⟩ := vals2 r
  obtain ⟨t1, rfl⟩ := r1
  obtain ⟨t2, rfl⟩ := r2
  exact call_bin hk ⟨.int n, H, I.tok _, ⟨_, rfl⟩, q⟩
theorem snd_bin2 {X : Cx} : SndC X.K (fun xs H Q => ∃ x n, xs = [.str x, .int 2] ∧ BinOk x n ∧ Q (.int n) H) binF := by
  intro G H b vs ds d b' Q r fz ob e q
  unfold binF at e
  split at e
  · rename_i a c i
    obtain ⟨v, v2, rfl, r1, r2⟩ := r.two
    cases r1
    cases r2
    obtain ⟨h, e⟩ := M.guard_some e
    cases e
    simp only [Bool.and_eq_true, isBin, Bool.or_eq_true, beq_iff_eq] at h
    obtain ⟨rfl, ha, hc⟩ := h
    have q := q _ _ _ (Nxt.refl fz ob) (.int _)
    rcases ha with rfl | rfl <;> rcases hc with rfl | rfl
    · exact ⟨_, _, rfl, bin00, q⟩
    · exact ⟨_, _, rfl, bin01, q⟩
    · exact ⟨_, _, rfl, bin10, q⟩
    · exact ⟨_, _, rfl, bin11, q⟩
  · cases e
theorem d_int2 {X : Cx} {a c : Expr} {p pos : Pos} {fa : Env → M (List D)} (hg : Gl X "int") (hm : X.mg "int" = none) (ha : DA X [a, c] fa) (he : starEach [a, c] X.env = (false, eval a X.env) :: starEach [c] X.env := by rfl) (hpl : (backTo pos (starEach [c] X.env)).any (·.1) = false := by rfl) :
    DE X (.Call (.Name "int" p) [a, c] [] pos) (fun ρ => M.bind (fa ρ) binF) := d_callTy snd_bin snd_bin2 hg hm (by decide +kernel) ha (he := he) (hpl := hpl)
end DL
set_option Elab.async false
set_option maxRecDepth 100000
set_option autoImplicit false
set_option linter.unusedVariables false
set_option maxHeartbeats 4000000
namespace DL
open PySem L2 PySem.Spec PyProof.Rows
/-! ### constants of a module -/
theorem d_gstr {X : Cx} {x : Str} {pos : Pos} (l : List Nat) (hg : Gl X x) (h : ∃ t, X.mg x = some (.str ⟨l.toArray⟩ t)) (hd : (x == ("__debug__" : Str)) = false := by decide) : DE X (.Name x pos) (cst (.str l)) := by
  obtain ⟨t, h⟩ := h
  exact d_c (v := .str ⟨l.toArray⟩) (pe_glob hg h ⟨t, rfl⟩ hd) fun _ => .str l
theorem d_gint {X : Cx} {x : Str} {pos : Pos} (i : Int) (hg : Gl X x) (h : ∃ t, X.mg x = some (.int i t)) (hd : (x == ("__debug__" : Str)) = false := by decide) : DE X (.Name x pos) (cst (.int i)) := by
  obtain ⟨t, h⟩ := h
  exact d_c (v := .int i) (pe_glob hg h ⟨t, rfl⟩ hd) fun _ => .int i
/-! ### defs of a class -/
def inCls (s : Stmt) (j : Nat) : Stmt := match s with
  | .ClassDef _ _ _ body _ _ _ _ _ _ _ => body.getD j (.Pass ⟨0, 0, 0, 0⟩)
  | _ => .Pass ⟨0, 0, 0, 0⟩
structure MethAt (K : PySem.W.Frag) (C : Addr) (x qual : Str) (st : Stmt) (ps : List Str) (f : Addr) (fd : FuncData) : Prop where
  fn : Fun K x qual st f fd
  bd : Binds K fd ps []
  me : Meth K C x f
structure GetAt (K : PySem.W.Frag) (C p : Addr) (x qual : Str) (st : Stmt) (ps : List Str) (f : Addr) (fd : FuncData) : Prop where
  fn : Fun K x qual st f fd
  bd : Binds K fd ps []
  pr : PropAt K C x p f
/-- a def with or without defaults -/
structure FunV (K : PySem.W.Frag) (x qual : Str) (st : Stmt) (f : Addr) (fd : FuncData) : Prop where
  ex : ∃ (oc : Value) (od : Option Addr) (dV kV doc pm : Value) (an : Option Addr) (cdv ct : Value) (osl : Array (Option Value)),
    fd = PySem.W.fnOf x qual (defArgs st) (defBody st) (defScope st) dV kV doc pm an cdv ct ∧ K.lookup f = some ⟨oc, od, .func fd, osl⟩ ∧ PySem.W.codeIn K cdv qual = true
  kp : PySem.W.keepIn K (.ref f) = true
theorem funV_mk {K : PySem.W.Frag} {x qual : Str} {st : Stmt} {f : Addr} {oc : Value} {od an : Option Addr} {osl : Array (Option Value)} {dV kV doc pm cdv ct : Value} (l : K.lookup f = some ⟨oc, od, .func (PySem.W.fnOf x qual (defArgs st) (defBody st) (defScope st) dV kV doc pm an cdv ct), osl⟩)
    (c : PySem.W.codeIn K cdv qual = true) (k : PySem.W.keepIn K (.ref f) = true) : FunV K x qual st f (PySem.W.fnOf x qual (defArgs st) (defBody st) (defScope st) dV kV doc pm an cdv ct) := ⟨⟨oc, od, dV, kV, doc, pm, an, cdv, ct, osl, rfl, l, c⟩, k⟩
structure InitAt (K : PySem.W.Frag) (C : Addr) (qual : Str) (st : Stmt) (ps : List Str) (f : Addr) (fd : FuncData) : Prop where
  fn : FunV K "__init__" qual st f fd
  bd : Binds K fd ps []
  im : Mk K C f
section
variable {P : Program} {w : World} {K : PySem.W.Frag} {mg : Str → Option Value} {base : Heap} {x qual : Str} {st : Stmt} {f C : Addr} {fd : FuncData} {N ps : List Str} {k n : Nat} {Fs : Env2 → M (List D)} {Fi : List D → M (List D)}
theorem FunV.ok {sp : Sp} (F : FunV K x qual st f fd) (S : FnScope N ps (defScope st)) (len : ∀ vs H Q E, sp vs H Q E → vs.length = ps.length)
    (hbody : ∀ (cdv : Value) (A : Around) (outer : List PySem.Env) (s : Shared) (H : Hp) (vs : List V) (Q : VK) (E : XK), Room k (A.deeper (envOfC qual (defScope st) s.heap.objs.size f cdv)) → sp vs H Q E →
      ∃ t, PSs (cxOf CX0 P w K mg base N qual (defScope st) f cdv A outer s H E).nox (defBody st) t ∧ t { nx := fun _ H' => Q .non H', rt := Q } (L2.start N vs) H) : FnOk P w K mg base CX0 (k + 1) f fd ps sp := by
  obtain ⟨oc, od, dV, kV, doc, pm, an, cdv, ct, osl, rfl, lk, hcd⟩ := F.ex
  refine fn_of lk hcd S len fun A outer s H vs Q E hr hsp => ?_
  obtain ⟨t, h, q⟩ := hbody cdv A outer s H vs Q E hr hsp
  exact ⟨t, h.nox, q⟩
theorem fnI (F : FunV K x qual st f fd) (S : FnScope N ps (defScope st)) (hn : ps.length = n + 1) (hF : ∀ x ds b r, ds.length = n → Fi ds b = some r → Fs (startD N.length (.bag x :: ds)) b = some r)
    (hb : ∀ (cdv : Value) (A : Around) (outer : List PySem.Env) (s : Shared) (H : Hp) (E : XK), Room k (A.deeper (envOfC qual (defScope st) s.heap.objs.size f cdv)) → DI0 (cxOf CX0 P w K mg base N qual (defScope st) f cdv A outer s H E).nox C (defBody st) Fs) :
    FnOk P w K mg base CX0 (k + 1) f fd ps (spI K n C Fi) := by
  refine F.ok S ?_ fun cdv A outer s H vs Q E hr h => ⟨_, hb cdv A outer s H E hr, ?_⟩
  · rintro vs H Q E ⟨x, dx, ws, G, b, ds, fs, b', rfl, _, _, _, _, _, _, _, r, hl, _⟩
    rw [List.length_cons, r.length, hl, hn]
  · obtain ⟨x, dx, ws, G, b, ds, fs, b', rfl, k1, k2, k3, k4, k5, k6, k7, r, hl, fz, ob, e, q⟩ := h
    exact ⟨⟨G, H, b⟩, _, G, b, fs, b', x, dx, SI.start (.cons (.bag x) r) fz ob, k1, k2, k3, k6, k7, k4, k5, rfl, hF x ds b _ hl e, fun σ' us G' H' n r => q us G' H' n r⟩
end
/-- every parameter is given, though there are defaults -/
theorem bindsV {K : PySem.W.Frag} {fd : FuncData} {ps : List Str} {T : Addr} {o : Obj} {its : List Value} {n : Nat} (lT : K.lookup T = some o) (oT : o.data = .seq its.toArray n)
    (h : ∀ us : List Value, us.length = ps.length → ∃ k, bindArgs fd ⟨us, []⟩ = seqItems? (.ref T) >>= k ∧ k (some its.toArray) = pure (ps.zip us)) : Binds K fd ps [] := by
  intro s us X hlen
  rw [List.append_nil] at hlen ⊢
  obtain ⟨k, e1, e2⟩ := h us hlen
  refine BindsTo.of_looks fun M => ?_
  rw [e1]
  exact looks_items X lT oT (PySem.W.Looks.of_pure e2)
def tBl (f : Env → M D) : Env → M Bool := fun ρ => M.bind (f ρ) asB
def iTwoS (ms : List Nat) (f : Env → M D) : Env2 → M (List D) := fun ρ => M.bind (f (view ms ρ)) two2s
def iTwo (ms : List Nat) (f : Env → M D) : Env2 → M (List D) := fun ρ => M.bind (f (view ms ρ)) two2
/-! ### what Rule(table, rests) holds -/
def okTab (t : List Nat) : Bool := t.length == 4 && t.all isBin
def ruleI : List D → M (List D)
  | [.str t, .int r] => M.guard (okTab t && (decide (0 ≤ r) && decide (r ≤ 2))) (M.ret [.int r, .str t])
  | _ => M.fail
end DL
set_option Elab.async false
set_option maxRecDepth 100000
set_option autoImplicit false
set_option linter.unusedVariables false
set_option maxHeartbeats 4000000
namespace DL
open PySem L2
/-! ### is None -/
def isNonD : D → Bool
  | .non => true
  | _ => false
def isD (neg : Bool) : D → D → M D
  | x, .non => M.ret (.bl (if neg then !isNonD x else isNonD x))
  | _, _ => M.fail
theorem Rp.isNon {K : PySem.W.Frag} {G : Hp} {v : V} {d : D} (r : Rp K G v d) : decide (v = .non) = isNonD d := by
  cases r <;> first | rfl | exact decide_eq_false (fun z => by cases z)
theorem snd_is {K : PySem.W.Frag} : SndR K (fun x y H Q => y = .non ∧ Q (.bl (decide (x = .non))) H) (isD false) := by
  intro G H b x y dx dy d b' Q rx ry f o e q
  cases ry with
  | non =>
    cases e
    rw [rx.isNon]
    exact ⟨rfl, q _ G H (Nxt.refl f o) (.bl _)⟩
  | _ => cases e
theorem snd_isnt {K : PySem.W.Frag} : SndR K (fun x y H Q => y = .non ∧ Q (.bl (!decide (x = .non))) H) (isD true) := by
  intro G H b x y dx dy d b' Q rx ry f o e q
  cases ry with
  | non =>
    cases e
    rw [rx.isNon]
    exact ⟨rfl, q _ G H (Nxt.refl f o) (.bl _)⟩
  | _ => cases e
section
variable {X : Cx} {a b : Expr} {f g : Env → M D} {pos : Pos}
theorem t_is (ha : DE X a f) (hb : DE X b g) (hm : behindInMarks .Is b = false := by rfl) : DT X (.Compare a [.Is] [b] pos) (t2 (isD false) f g) := t_cmp op_isN snd_is ha hb hm
theorem d_is (ha : DE X a f) (hb : DE X b g) (hm : behindInMarks .Is b = false := by rfl) : DE X (.Compare a [.Is] [b] pos) (e2 (isD false) f g) := d_cmp op_isN snd_is ha hb hm
theorem t_isnt (ha : DE X a f) (hb : DE X b g) (hm : behindInMarks .IsNot b = false := by rfl) : DT X (.Compare a [.IsNot] [b] pos) (t2 (isD true) f g) := t_cmp op_notN snd_isnt ha hb hm
theorem d_isnt (ha : DE X a f) (hb : DE X b g) (hm : behindInMarks .IsNot b = false := by rfl) : DE X (.Compare a [.IsNot] [b] pos) (e2 (isD true) f g) := d_cmp op_notN snd_isnt ha hb hm
/-! ### in: a sign of a text, an item of a list or a tuple -/
def flatD : D → Bool
  | .non => true
  | .bl _ => true
  | .int _ => true
  | .str _ => true
  | _ => false
def eqF : D → D → Bool
  | .non, .non => true
  | .bl a, .bl b => a == b
  | .bl a, .int b => (if a then 1 else 0) == b
  | .int a, .bl b => a == (if b then 1 else 0)
  | .int a, .int b => a == b
  | .str a, .str b => a == b
  | _, _ => false
def inE (neg : Bool) : D → D → M D
  | .str [c], .str z => M.ret (.bl (if neg then !decide (c ∈ z) else decide (c ∈ z)))
  | x, .lst xs => M.guard (flatD x && xs.all flatD) (M.ret (.bl (if neg then !xs.any (fun y => eqF y x) else xs.any (fun y => eqF y x))))
  | x, .tup xs => M.guard (flatD x && xs.all flatD) (M.ret (.bl (if neg then !xs.any (fun y => eqF y x) else xs.any (fun y => eqF y x))))
  | _, _ => M.fail
theorem Rp.flatV {K : PySem.W.Frag} {G : Hp} {v : V} {d : D} (r : Rp K G v d) (h : flatD d = true) : L2.flatV v = true := by
  cases r <;> first | rfl | cases h
theorem str_beq (a b : List Nat) : ((⟨a.toArray⟩ : Str) == ⟨b.toArray⟩) = (a == b) := by
  rw [Bool.eq_iff_iff, beq_iff_eq, beq_iff_eq]
  refine ⟨fun h => ?_, fun h => by rw [h]⟩
  have := congrArg (fun z : Str => z.cps.toList) h
  simpa using this
theorem eqV_str (a b : List Nat) : L2.eqV (V.str ⟨a.toArray⟩) (V.str ⟨b.toArray⟩) = eqF (.str a) (.str b) := str_beq a b
theorem Rp.eqV {K : PySem.W.Frag} {G : Hp} {v w : V} {d e : D} (r : Rp K G v d) (r2 : Rp K G w e) (h : flatD d = true) (h2 : flatD e = true) : L2.eqV v w = eqF d e := by
  cases r <;> cases r2 <;> first | exact eqV_str _ _ | rfl | (exfalso; cases h; done) | (exfalso; cases h2; done)
theorem RpL.flats {K : PySem.W.Frag} {G : Hp} : ∀ {vs : List V} {ds : List D}, RpL K G vs ds → ds.all flatD = true → vs.all L2.flatV = true
  | _, _, .nil, _ => rfl
  | _, _, .cons a r, h => by
    rw [List.all_cons, Bool.and_eq_true] at h
    rw [List.all_cons, a.flatV h.1, RpL.flats r h.2]; rfl
theorem RpL.inV {K : PySem.W.Frag} {G : Hp} {w : V} {e : D} (re : Rp K G w e) (he : flatD e = true) : ∀ {vs : List V} {ds : List D}, RpL K G vs ds → ds.all flatD = true → L2.inV w vs = ds.any (fun y => eqF y e)
  | _, _, .nil, _ => rfl
  | _, _, .cons a r, h => by
    rw [List.all_cons, Bool.and_eq_true] at h
    show (L2.eqV _ w || L2.inV w _) = _
    rw [List.any_cons, a.eqV re h.1 he, RpL.inV re he r h.2]
theorem snd_inE (neg : Bool) : SndR X.K (fun x y H Q => (∃ (c : Nat) (z : Str), x = .str ⟨#[c]⟩ ∧ y = .str z ∧ Q (.bl (if neg then !decide (c ∈ z.cps.toList) else decide (c ∈ z.cps.toList))) H) ∨ rIn X.K neg x y H Q) (inE neg) := by
  intro G H b x y dx dy d b' Q rx ry f o e q
  unfold inE at e
  split at e
  · rename_i c z
    cases e
    cases rx
    cases ry
    refine .inl ⟨c, _, rfl, rfl, ?_⟩
    have := q (.bl (if neg then !decide (c ∈ z) else decide (c ∈ z))) G H (Nxt.refl f o) (.bl _)
    simpa using this
  · rename_i xs
    obtain ⟨k, e⟩ := M.guard_some e
    rw [Bool.and_eq_true] at k
    cases e
    cases ry with
    | lst h1 h2 =>
      refine .inr ⟨_, _, rfl, .inl (SqL.of (f _ _ h1)), rx.flatV k.1, h2.flats k.2, ?_⟩
      rw [h2.inV rx k.1 k.2]
      exact q _ G H (Nxt.refl f o) (.bl _)
  · rename_i xs
    obtain ⟨k, e⟩ := M.guard_some e
    rw [Bool.and_eq_true] at k
    cases e
    cases ry with
    | tup h1 h2 =>
      refine .inr ⟨_, _, rfl, .inr (Same.sqt f h1), rx.flatV k.1, h2.flats k.2, ?_⟩
      rw [h2.inV rx k.1 k.2]
      exact q _ G H (Nxt.refl f o) (.bl _)
  · cases e
theorem op_inE : OpR X (compareOp .In) (fun x y H Q => (∃ (c : Nat) (z : Str), x = .str ⟨#[c]⟩ ∧ y = .str z ∧ Q (.bl (if false then !decide (c ∈ z.cps.toList) else decide (c ∈ z.cps.toList))) H) ∨ rIn X.K false x y H Q) := op_in_sign.or op_in_seq
theorem op_notInE : OpR X (compareOp .NotIn) (fun x y H Q => (∃ (c : Nat) (z : Str), x = .str ⟨#[c]⟩ ∧ y = .str z ∧ Q (.bl (if true then !decide (c ∈ z.cps.toList) else decide (c ∈ z.cps.toList))) H) ∨ rIn X.K true x y H Q) := op_notIn_sign.or op_notIn_seq
theorem t_inE (ha : DE X a f) (hb : DE X b g) (hm : behindInMarks .In b = false := by rfl) : DT X (.Compare a [.In] [b] pos) (t2 (inE false) f g) := t_cmp op_inE (snd_inE false) ha hb hm
theorem d_inE (ha : DE X a f) (hb : DE X b g) (hm : behindInMarks .In b = false := by rfl) : DE X (.Compare a [.In] [b] pos) (e2 (inE false) f g) := d_cmp op_inE (snd_inE false) ha hb hm
theorem t_notInE (ha : DE X a f) (hb : DE X b g) (hm : behindInMarks .NotIn b = false := by rfl) : DT X (.Compare a [.NotIn] [b] pos) (t2 (inE true) f g) := t_cmp op_notInE (snd_inE true) ha hb hm
theorem d_notInE (ha : DE X a f) (hb : DE X b g) (hm : behindInMarks .NotIn b = false := by rfl) : DE X (.Compare a [.NotIn] [b] pos) (e2 (inE true) f g) := d_cmp op_notInE (snd_inE true) ha hb hm
/-! ### methods of a text with one argument -/
theorem m1_f {K : PySem.W.Frag} {r : V → List V → Hp → VK → Prop} {h : D → D → M D} (hs : ∀ G H b x dx y dy d b' Q, x = .str ⟨(dx : List Nat).toArray⟩ → Rp K G y dy → Same G H → BagOk G H b → h (.str dx) dy b = some (d, b') → (∀ v G' H', Nxt G H b G' H' b' → Rp K G' v d → Q v H') → r x [y] H Q)
    (hn : ∀ x y b r, h x y b = some r → ∃ z, x = .str z) : ∀ σ H Q, tF K (e2 h f g) σ H Q → tM1 r (tF K f) (tF K g) σ H Q := by
  rintro σ H Q ⟨ρ, G, b, d, b', rs, fz, ob, e, q⟩
  obtain ⟨x, b1, e1, e⟩ := M.bind_some e
  obtain ⟨y, b2, e2, e3⟩ := M.bind_some e
  refine ⟨ρ, G, b, x, b1, rs, fz, ob, e1, fun v G1 H1 n1 r1 => ?_⟩
  obtain ⟨z, rfl⟩ := hn _ _ _ _ e3
  cases r1
  refine ⟨⟨_, rfl⟩, ρ, G1, b1, y, b2, rs.mono n1.gg, n1.fz, n1.bag, e2, fun v2 G2 H2 n2 r2 => ?_⟩
  exact hs G2 H2 b2 _ z v2 y d b' Q rfl r2 n2.fz n2.bag e3 fun w G' H' n3 r3 => q w G' H' ((n1.trans n2).trans n3) r3
def countD : D → D → M D
  | .str x, .str [c] => M.ret (.int (x.count c))
  | _, _ => M.fail
theorem cnt_list (c : Nat) : ∀ x : List Nat, (PyProof.Rows.cnt c x : Int) = x.count c
  | [] => rfl
  | n :: r => by
    rw [PyProof.Rows.cnt_cons, cnt_list c r, List.count_cons]
    by_cases h : n = c
    · simp [h]; omega
    · simp [h]
theorem d_count {apos : Pos} (ha : DE X a f) (hb : DE X b g) (hs : starEach [b] X.env = [(false, eval b X.env)] := by rfl) (hbase : attributeBase a "count" X.env (eval a X.env) = eval a X.env := by rfl) (hline : (apos.endLine == pos.line) = true := by rfl) :
    DE X (.Call (.Attribute a "count" apos) [b] [] pos) (e2 countD f g) := by
  refine PEimp (pe_m1 F.slot_str_count F.type_str_count mt_count ha hb hs hbase hline) (m1_f ?_ ?_)
  · intro G H b x dx y dy d b' Q hx ry fz ob e q
    subst hx
    cases ry with
    | str z =>
      match z, e, q with
      | [c], e, q =>
        cases e
        refine ⟨_, _, rfl, rfl, ?_⟩
        rw [show (⟨[c].toArray⟩ : Str) = ⟨#[c]⟩ from rfl, PyProof.Rows.count_cnt, cnt_list]
        exact q _ G H (Nxt.refl fz ob) (.int _)
      | [], e, _ => cases e
      | _ :: _ :: _, e, _ => cases e
    | _ => cases e
  · intro x y b r h
    unfold countD at h
    split at h
    · exact ⟨_, rfl⟩
    · cases h
/-! ### sum, max, min, list, tuple -/
def intsD : List D → Option (List Int)
  | [] => some []
  | .int i :: r => (intsD r).map (i :: ·)
  | _ => none
theorem intsD_of {K : PySem.W.Frag} {G : Hp} : ∀ {vs : List V} {ds : List D} {is : List Int}, RpL K G vs ds → intsD ds = some is → vs = is.map V.int
  | _, _, _, .nil, h => by cases h; rfl
  | _, _, is, .cons (d := d) (ds := ds) r rl, h => by
    cases r with
    | int i =>
      cases e : intsD ds with
      | none => unfold intsD at h; rw [e] at h; cases h
      | some js =>
        unfold intsD at h
        rw [e] at h
        cases h
        rw [List.map_cons, intsD_of rl e]
    | _ => cases h
theorem intsD_map (is : List Int) : intsD (is.map D.int) = some is := by
  induction is with
  | nil => rfl
  | cons i r ih => show (intsD (r.map D.int)).map (i :: ·) = _; rw [ih]; rfl
def sumF : List D → M D
  | [.lst xs] => match intsD xs with
    | some is => M.ret (.int is.sum)
    | none => M.fail
  | _ => M.fail
theorem snd_sum : SndC X.K (rSum X.K) sumF := by
  intro G H b vs ds d b' Q r fz ob e q
  unfold sumF at e
  split at e
  · rename_i xs
    obtain ⟨v, rfl, r1⟩ := r.one
    cases r1 with
    | lst h1 h2 =>
      cases ei : intsD xs with
      | none => rw [ei] at e; cases e
      | some is =>
        rw [ei] at e
        cases e
        have hv := intsD_of h2 ei
        subst hv
        exact ⟨_, is, rfl, SqL.of (fz _ _ h1), q _ G H (Nxt.refl fz ob) (.int _)⟩
  · cases e
def two1 (h : Int → Int → Int) : List D → M D
  | [.int i, .int j] => M.ret (.int (h i j))
  | _ => M.fail
def maxZ (i j : Int) : Int := if j > i then j else i
def minZ (i j : Int) : Int := if j < i then j else i
theorem snd_two1 {h : Int → Int → Int} : SndC X.K (fun xs H Q => ∃ i j, xs = [.int i, .int j] ∧ Q (.int (h i j)) H) (two1 h) := by
  intro G H b vs ds d b' Q r fz ob e q
  unfold two1 at e
  split at e
  · obtain ⟨v, w, rfl, r1, r2⟩ := r.two
    cases r1
    cases r2
    cases e
    exact ⟨_, _, rfl, q _ G H (Nxt.refl fz ob) (.int _)⟩
  · cases e
def maxL : List Int → Int
  | [] => 0
  | i :: r => r.foldl max i
def minL : List Int → Int
  | [] => 0
  | i :: r => r.foldl min i
theorem foldl_max (r : List Int) (i : Int) : r.foldl max i ∈ i :: r ∧ ∀ y ∈ i :: r, y ≤ r.foldl max i := by
  induction r generalizing i with
  | nil => simp
  | cons a r ih =>
    obtain ⟨h1, h2⟩ := ih (max i a)
    refine ⟨?_, ?_⟩
    · rw [List.foldl_cons]
      rcases List.mem_cons.mp h1 with h | h
      · rw [h]
        rcases Int.le_total i a with z | z
        · rw [Int.max_eq_right z]; simp
        · rw [Int.max_eq_left z]; simp
      · simp [h]
    · intro y hy
      rw [List.foldl_cons]
      have hm := h2 (max i a) (by simp)
      rcases List.mem_cons.mp hy with rfl | hy
      · omega
      · rcases List.mem_cons.mp hy with rfl | hy
        · omega
        · exact h2 y (by simp [hy])
theorem foldl_min (r : List Int) (i : Int) : r.foldl min i ∈ i :: r ∧ ∀ y ∈ i :: r, r.foldl min i ≤ y := by
  induction r generalizing i with
  | nil => simp
  | cons a r ih =>
    obtain ⟨h1, h2⟩ := ih (min i a)
    refine ⟨?_, ?_⟩
    · rw [List.foldl_cons]
      rcases List.mem_cons.mp h1 with h | h
      · rw [h]
        rcases Int.le_total i a with z | z
        · rw [Int.min_eq_left z]; simp
        · rw [Int.min_eq_right z]; simp
      · simp [h]
    · intro y hy
      rw [List.foldl_cons]
      have hm := h2 (min i a) (by simp)
      rcases List.mem_cons.mp hy with rfl | hy
      · omega
      · rcases List.mem_cons.mp hy with rfl | hy
        · omega
        · exact h2 y (by simp [hy])
def maxF : List D → M D
  | [.lst xs] => match intsD xs with
    | some (i :: r) => M.ret (.int (maxL (i :: r)))
    | _ => M.fail
  | [.int i, .int j] => M.ret (.int (maxZ i j))
  | _ => M.fail
def minF : List D → M D
  | [.lst xs] => match intsD xs with
    | some (i :: r) => M.ret (.int (minL (i :: r)))
    | _ => M.fail
  | [.int i, .int j] => M.ret (.int (minZ i j))
  | _ => M.fail
theorem snd_max : SndC X.K (fun xs H Q => (∃ i j, xs = [.int i, .int j] ∧ Q (.int (if j > i then j else i)) H) ∨ rMax X.K xs H Q) maxF := by
  intro G H b vs ds d b' Q r fz ob e q
  unfold maxF at e
  split at e
  · rename_i xs
    obtain ⟨v, rfl, r1⟩ := r.one
    cases r1 with
    | lst h1 h2 =>
      cases ei : intsD xs with
      | none => rw [ei] at e; cases e
      | some is =>
      rw [ei] at e
      cases is with
      | nil => cases e
      | cons i r' =>
        cases e
        have hv := intsD_of h2 ei
        subst hv
        have := foldl_max r' i
        refine .inr ⟨_, _, rfl, SqL.of (fz _ _ h1), by simp, fun m hm hle => ?_⟩
        have e : m = maxL (i :: r') := Int.le_antisymm (this.2 m hm) (hle _ this.1)
        rw [e]
        exact q _ G H (Nxt.refl fz ob) (.int _)
  · obtain ⟨v, w, rfl, r1, r2⟩ := r.two
    cases r1
    cases r2
    cases e
    exact .inl ⟨_, _, rfl, q _ G H (Nxt.refl fz ob) (.int _)⟩
  · cases e
theorem snd_min : SndC X.K (fun xs H Q => (∃ i j, xs = [.int i, .int j] ∧ Q (.int (if j < i then j else i)) H) ∨ rMin X.K xs H Q) minF := by
  intro G H b vs ds d b' Q r fz ob e q
  unfold minF at e
  split at e
  · rename_i xs
    obtain ⟨v, rfl, r1⟩ := r.one
    cases r1 with
    | lst h1 h2 =>
      cases ei : intsD xs with
      | none => rw [ei] at e; cases e
      | some is =>
      rw [ei] at e
      cases is with
      | nil => cases e
      | cons i r' =>
        cases e
        have hv := intsD_of h2 ei
        subst hv
        have := foldl_min r' i
        refine .inr ⟨_, _, rfl, SqL.of (fz _ _ h1), by simp, fun m hm hle => ?_⟩
        have e : m = minL (i :: r') := Int.le_antisymm (hle _ this.1) (this.2 m hm)
        rw [e]
        exact q _ G H (Nxt.refl fz ob) (.int _)
  · obtain ⟨v, w, rfl, r1, r2⟩ := r.two
    cases r1
    cases r2
    cases e
    exact .inl ⟨_, _, rfl, q _ G H (Nxt.refl fz ob) (.int _)⟩
  · cases e
def listF : List D → M (List D)
  | [.lst xs] => M.ret xs
  | [.tup xs] => M.ret xs
  | _ => M.fail
theorem snd_list : SndCN X.K (fun xs H Q => ∃ p ys, xs = [.ref p] ∧ (SqL X.K H p ys ∨ SqT X.K H p ys) ∧ ∀ l, H l = none → Q (.ref l) (upd H l (.lst ys))) listF := by
  intro G H b vs ds xs b' Q r fz ob e q
  unfold listF at e
  split at e
  · obtain ⟨v, rfl, r1⟩ := r.one
    cases r1 with
    | lst h1 h2 =>
      cases e
      exact ⟨_, _, rfl, .inl (SqL.of (fz _ _ h1)), fun l hl => q l _ G _ (Nxt.newH fz ob hl) hl (gnone fz hl) upd_same h2⟩
  · obtain ⟨v, rfl, r1⟩ := r.one
    cases r1 with
    | tup h1 h2 =>
      cases e
      exact ⟨_, _, rfl, .inr (Same.sqt fz h1), fun l hl => q l _ G _ (Nxt.newH fz ob hl) hl (gnone fz hl) upd_same h2⟩
  · cases e
def tupleF : List D → M D
  | [.lst xs] => M.ret (.tup xs)
  | [.tup xs] => M.ret (.tup xs)
  | _ => M.fail
theorem snd_tuple : SndC X.K (fun xs H Q => ∃ p ys, xs = [.ref p] ∧ ((SqL X.K H p ys ∧ ∀ l, H l = none → Q (.ref l) (upd H l (.tup ys))) ∨ (SqT X.K H p ys ∧ Q (.ref p) H))) tupleF := by
  intro G H b vs ds xs b' Q r fz ob e q
  unfold tupleF at e
  split at e
  · obtain ⟨v, rfl, r1⟩ := r.one
    cases r1 with
    | lst h1 h2 =>
      cases e
      exact ⟨_, _, rfl, .inl ⟨SqL.of (fz _ _ h1), fun l hl => q_newT fz ob hl h2 q⟩⟩
  · obtain ⟨v, rfl, r1⟩ := r.one
    cases r1 with
    | tup h1 h2 =>
      cases e
      exact ⟨_, _, rfl, .inr ⟨Same.sqt fz h1, q _ G H (Nxt.refl fz ob) (.tup h1 h2)⟩⟩
  · cases e
variable {e : Expr} {es : List Expr} {fa : Env → M (List D)} {p : Pos}
theorem d_sum (hc : X.calm = true) (hg : Gl X "sum") (hm : X.mg "sum" = none) (ha : DA X [e] fa) (he : starEach [e] X.env = (false, eval e X.env) :: starEach [] X.env := by rfl) : DE X (.Call (.Name "sum" p) [e] [] pos) (eCall sumF fa) :=
  d_callB (cr_sum hc) snd_sum hg hm (by decide +kernel) ha (he := he)
theorem d_max (hc : X.calm = true) (hg : Gl X "max") (hm : X.mg "max" = none) (ha : DA X (e :: es) fa) (he : starEach (e :: es) X.env = (false, eval e X.env) :: starEach es X.env := by rfl) (hpl : (backTo pos (starEach es X.env)).any (·.1) = false := by rfl) : DE X (.Call (.Name "max" p) (e :: es) [] pos) (eCall maxF fa) :=
  d_callB ((call_max2 hc).or (cr_max hc)) snd_max hg hm (by decide +kernel) ha (he := he) (hpl := hpl)
theorem d_min (hc : X.calm = true) (hg : Gl X "min") (hm : X.mg "min" = none) (ha : DA X (e :: es) fa) (he : starEach (e :: es) X.env = (false, eval e X.env) :: starEach es X.env := by rfl) (hpl : (backTo pos (starEach es X.env)).any (·.1) = false := by rfl) : DE X (.Call (.Name "min" p) (e :: es) [] pos) (eCall minF fa) :=
  d_callB ((call_min2 hc).or (cr_min hc)) snd_min hg hm (by decide +kernel) ha (he := he) (hpl := hpl)
theorem dn_list (hg : Gl X "list") (hm : X.mg "list" = none) (ha : DA X [e] fa) (he : starEach [e] X.env = (false, eval e X.env) :: starEach [] X.env := by rfl) : DN X (.Call (.Name "list" p) [e] [] pos) (nCall listF fa) :=
  dn_callTy call_list_of snd_list hg hm (by decide +kernel) ha (he := he)
theorem d_tuple (hg : Gl X "tuple") (hm : X.mg "tuple" = none) (ha : DA X [e] fa) (he : starEach [e] X.env = (false, eval e X.env) :: starEach [] X.env := by rfl) : DE X (.Call (.Name "tuple" p) [e] [] pos) (eCall tupleF fa) :=
  d_callTy call_tuple_of snd_tuple hg hm (by decide +kernel) ha (he := he)
/-! ### isinstance(.., (T, U)) -/
def isiD2 (T U : String) (d : D) : M D := match tyD d with
  | some t => M.ret (.bl (isT t T || isT t U))
  | none => M.fail
theorem d_isi2 {T U : String} {x y : Str} {p2 p3 p4 : Pos} {k : Nat} (hT : T ∈ tys) (hU : U ∈ tys) (hg : Gl X "isinstance") (hm : X.mg "isinstance" = none) (hgt : Gl X x) (hmt : X.mg x = none) (hvt : bootBuiltins x = some (.type T)) (hgu : Gl X y) (hmu : X.mg y = none) (hvu : bootBuiltins y = some (.type U)) (he : DE X e f)
    (hnt : x ≠ "__name__" := by decide) (hdt : (x == ("__debug__" : Str)) = false := by decide) (hnu : y ≠ "__name__" := by decide) (hdu : (y == ("__debug__" : Str)) = false := by decide)
    (hs : starEach [e, .Tuple [.Name x p2, .Name y p3] k p4] X.env = (false, eval e X.env) :: starEach [.Tuple [.Name x p2, .Name y p3] k p4] X.env := by rfl) (hs2 : starEach [.Tuple [.Name x p2, .Name y p3] k p4] X.env = (false, eval (.Tuple [.Name x p2, .Name y p3] k p4) X.env) :: starEach [] X.env := by rfl)
    (hs3 : starEach [.Name x p2, .Name y p3] X.env = (false, eval (.Name x p2) X.env) :: starEach [.Name y p3] X.env := by rfl) (hs4 : starEach [.Name y p3] X.env = (false, eval (.Name y p3) X.env) :: starEach [] X.env := by rfl)
    (hpl : (backTo pos (starEach [.Tuple [.Name x p2, .Name y p3] k p4] X.env)).any (·.1) = false := by rfl) :
    DE X (.Call (.Name "isinstance" p) [e, .Tuple [.Name x p2, .Name y p3] k p4] [] pos) (e1 (isiD2 T U) f) := by
  have pt : PE X (.Name x p2) (tC (.ty T)) := ⟨fun _ _ _ H _ I h => ld_blt I hgt hmt hvt ⟨.ty T, H, I, rfl, h⟩ hnt hdt⟩
  have pu : PE X (.Name y p3) (tC (.ty U)) := ⟨fun _ _ _ H _ I h => ld_blt I hgu hmu hvu ⟨.ty U, H, I, rfl, h⟩ hnu hdu⟩
  refine PEimp (pe_callB call_isiT hg hm (by decide +kernel) (pa_cons he (pa_cons (pe_tup (pa_cons pt (pa_cons pu pa_nil hs4) hs3)) pa_nil hs2) hs) (he := hs) (hpl := hpl)) ?_
  rintro σ H Q ⟨ρ, G, b, d, b', rs, fz, ob, e, q⟩
  obtain ⟨x, b1, e1, e2⟩ := M.bind_some e
  refine ⟨ρ, G, b, x, b1, rs, fz, ob, e1, fun v G1 H1 n1 r => ?_⟩
  unfold isiD2 at e2
  cases et : tyD x with
  | none => rw [et] at e2; cases e2
  | some t =>
    rw [et] at e2
    cases e2
    refine ⟨by show 2 ≤ 16777216; omega, fun tp hp => ?_⟩
    have n2 := Nxt.newF (o := .tup [V.ty T, V.ty U]) n1.fz n1.bag hp
    refine ⟨v, tp, [V.ty T, V.ty U], .type t, [.type T, .type U], _, rfl, upd_same, .cons (.ty T) (.cons (.ty U) .nil), tyD_of (r.mono n2.gg) n2.fz et, ?_, q _ _ _ (n1.trans n2) (.bl _)⟩
    have k1 := kit_isT (K := X.K) t (tyD_mem et) T hT
    have k2 := kit_isT (K := X.K) t (tyD_mem et) U hU
    refine kitAny_cons k1 (fun h1 => ?_) fun h1 => by rw [h1]; rfl
    rw [h1, Bool.false_or]
    exact kitAny_cons k2 (fun h2 => by rw [h2]; exact kitAny_nil) fun h2 => h2
/-! ### index -/
def indexD : D → D → M D
  | .lst xs, y => M.guard (flatD y && xs.all flatD) (match xs.findIdx? (fun z => eqF z y) with
    | some j => M.ret (.int (j : Nat))
    | none => M.fail)
  | _, _ => M.fail
end
end DL
set_option Elab.async false
set_option maxRecDepth 100000
set_option autoImplicit false
set_option linter.unusedVariables false
set_option maxHeartbeats 4000000
namespace DL
open PySem L2
section
variable {X : Cx} {a b : Expr} {f g : Env → M D} {pos : Pos}
/-! ### xs.index(y) -/
theorem RpL.idx {K : PySem.W.Frag} {G : Hp} {w : V} {e : D} (re : Rp K G w e) (he : flatD e = true) : ∀ {vs : List V} {ds : List D} {j : Nat}, RpL K G vs ds → ds.all flatD = true → ds.findIdx? (fun z => eqF z e) = some j → ∃ z, vs[j]? = some z ∧ eqV z w = true ∧ ∀ (m : Nat) (z' : V), m < j → vs[m]? = some z' → eqV z' w = false
  | _, _, _, .nil, _, hj => by simp at hj
  | _, _, j, .cons (v := v) (d := d) (ds := ds) r rl, hf, hj => by
    rw [List.all_cons, Bool.and_eq_true] at hf
    rw [List.findIdx?_cons] at hj
    cases h : eqF d e with
    | true =>
      rw [h] at hj
      cases hj
      exact ⟨v, rfl, by rw [r.eqV re hf.1 he, h], fun m z' hm => by omega⟩
    | false =>
      rw [h] at hj
      simp only [Bool.false_eq_true, if_false, Option.map_eq_some_iff] at hj
      obtain ⟨k, hk, rfl⟩ := hj
      obtain ⟨z, h1, h2, h3⟩ := RpL.idx re he rl hf.2 hk
      refine ⟨z, h1, h2, fun m z' hm hz => ?_⟩
      cases m with
      | zero => cases hz; rw [r.eqV re hf.1 he, h]
      | succ m => exact h3 m z' (by omega) hz
theorem d_index {apos : Pos} (ha : DE X a f) (hb : DE X b g) (hst : starEach [b] X.env = (false, eval b X.env) :: starEach [] X.env := by rfl)
    (hbase : attributeBase a "index" X.env (eval a X.env) = eval a X.env := by rfl)
    (hfew : ((backTo pos (starEach [b] X.env)).all (fun x => !x.1) && (backToKw pos (keywordEach [] X.env)).all (fun x => x.1.isSome) && decide (([b].length + ([] : List Keyword).length + if ([] : List Keyword).isEmpty = true then 0 else 1) < 30)) = true := by rfl)
    (hline : (apos.endLine == pos.line) = true := by rfl) :
    DE X (.Call (.Attribute a "index" apos) [b] [] pos) (e2 indexD f g) := by
  refine PEimp (pe_bm PySem.F.plainAttrs_list PySem.F.slot_list_index PySem.F.type_list_index mt_index ha (pa_cons hb pa_nil hst) hbase hfew hline hst) ?_
  rintro σ H Q ⟨ρ, G, b, d, b', rs, fz, ob, e, q⟩
  obtain ⟨x, b1, e1, e⟩ := M.bind_some e
  obtain ⟨y, b2, e2, e3⟩ := M.bind_some e
  refine ⟨ρ, G, b, x, b1, rs, fz, ob, e1, fun v G1 H1 n1 r1 => ?_⟩
  cases r1 with
  | @lst _ _ xs h1 h2 =>
    obtain ⟨k, e4⟩ := M.guard_some e3
    rw [Bool.and_eq_true] at k
    refine ⟨Or.inl ⟨rfl, _, SqL.of (n1.fz _ _ h1)⟩, ?_⟩
    refine ⟨ρ, G1, b1, y, b2, rs.mono n1.gg, n1.fz, n1.bag, e2, fun v2 G2 H2 n2 r2 => ?_⟩
    cases ej : xs.findIdx? (fun z => eqF z y) with
    | none => rw [ej] at e4; cases e4
    | some j =>
      rw [ej] at e4
      cases e4
      obtain ⟨z, k1, k2, k3⟩ := RpL.idx r2 k.1 (h2.mono n2.gg) k.2 ej
      exact ⟨_, _, v2, j, z, rfl, rfl, SqL.of (n2.fz _ _ (n2.gg _ _ h1)), r2.flatV k.1, (h2.mono n2.gg).flats k.2, k1, k2, k3, q _ G2 H2 (n1.trans n2) (.int _)⟩
  | _ => cases e3
/-! ### xs.extend(new list) -/
def extM (j : Nat) (ms : List Nat) (f : Env → M (List D)) (ρ : Env2) : M Out := M.bind (f (view ms ρ)) fun ds => match (keepIf (ds.all D.flat) ms ρ)[j]? with
  | some (some (.own xs)) => M.guard (decide (xs.length + ds.length ≤ sizeLine)) (M.ret (.nx ((keepIf (ds.all D.flat) ms ρ).set j (some (.own (xs ++ ds))))))
  | _ => M.fail
theorem s_extend (j : Nat) (ms : List Nat) {x : Str} {e : Expr} {f : Env → M (List D)} {p apos cpos : Pos} (he : DN X e f) (hN : X.N[j]? = some x := by rfl) (hv : Vis X.env.scope x := by first | exact Or.inl rfl | exact Or.inr (Or.inl rfl) | exact Or.inr (Or.inr rfl))
    (hd : (x == ("__debug__" : Str)) = false := by decide) (hcd : (x == ("__classdict__" : Str)) = false := by decide) (hst : starEach [e] X.env = (false, eval e X.env) :: starEach [] X.env := by rfl)
    (hbase : attributeBase (.Name x p) "extend" X.env (eval (.Name x p) X.env) = eval (.Name x p) X.env := by rfl)
    (hfew : ((backTo cpos (starEach [e] X.env)).all (fun x => !x.1) && (backToKw cpos (keywordEach [] X.env)).all (fun x => x.1.isSome) && decide (([e].length + ([] : List Keyword).length + if ([] : List Keyword).isEmpty = true then 0 else 1) < 30)) = true := by rfl)
    (hline : (apos.endLine == cpos.line) = true := by rfl) (hs : swapsWith (.Call (.Attribute (.Name x p) "extend" apos) [e] [] cpos) none pos.line X.env = pure false := by rfl) :
    DS X (.Expr (.Call (.Attribute (.Name x p) "extend" apos) [e] [] cpos) pos) (extM j ms f) := by
  refine PSimp (ps_expr (pe_bm PySem.F.plainAttrs_list PySem.F.slot_list_extend PySem.F.type_list_extend mt_extend (pe_var hN hv hd hcd) (pa_cons he pa_nil hst) hbase hfew hline hst) hs) ?_
  rintro D σ H ⟨E, ρ, G, b, o, b', I, e, q⟩
  obtain ⟨ds, b1, e1, e2⟩ := M.bind_some e
  cases ej : (keepIf (ds.all DL.D.flat) ms ρ)[j]? with
  | none => rw [ej] at e2; cases e2
  | some s =>
    cases s with
    | none => rw [ej] at e2; cases e2
    | some s =>
      cases s with
      | val d => rw [ej] at e2; cases e2
      | tr o => rw [ej] at e2; cases e2
      | own xs =>
        rw [ej] at e2
        obtain ⟨hz, e3⟩ := M.guard_some e2
        cases e3
        obtain ⟨p, vs, h1, h2, h3, h4, h5, h6⟩ := I.ownL (keepIf_own ej)
        refine ⟨_, h1, Or.inl ⟨rfl, vs, SqL.of h4⟩, ?_⟩
        refine ⟨_, _, b, ds, b', I.rs ms, I.gp2 ms, I.gpb ms, e1, fun pn ws G1 H1 n1 hp gn hh r => ?_⟩
        obtain ⟨G2, I2, r2, g2, _⟩ := I.afterN n1 r gn hp
        obtain ⟨p', vs', f1, f2, f3, f4, f5, f6⟩ := I2.ownL ej
        rw [h1] at f1
        cases f1
        refine ⟨p, pn, vs', ws, rfl, rfl, f4, hh, by rw [f5.length, r2.length]; exact of_decide_eq_true hz, ?_⟩
        exact q σ G2 _ (I2.mut ej h1 (f5.append r2))
/-! ### comprehensions of two fors -/
def compM2 (bs : D → Option (List (Nat × D))) (c : Env → M Bool) (gi1 : Env → M (List D)) (bs1 : D → Option (List (Nat × D))) (c1 : Env → M Bool) (e : Env → M D) (vs1 : List Nat) (ρ : Env) : List D → M (List D)
  | [] => M.ret []
  | x :: xs => match bs x with
    | none => M.fail
    | some l => M.bind (c (setAllD ρ l)) fun k => if k = true then M.bind (gi1 (setAllD ρ l)) fun ys => M.bind (compM bs1 c1 e (wipeD (setAllD ρ l) vs1) ys) fun zs => M.bind (compM2 bs c gi1 bs1 c1 e vs1 ρ xs) fun ws => M.ret (zs ++ ws) else compM2 bs c gi1 bs1 c1 e vs1 ρ xs
theorem wipe_sub {σ : L2.St} : ∀ {vs ws : List Nat}, (∀ v ∈ vs, v ∈ ws) → ∀ {τ : L2.St}, wipe τ vs = wipe σ vs → wipe τ ws = wipe σ ws := by
  intro vs ws h τ e
  rw [← wipe_wipe (σ := τ) h, e, wipe_wipe h]
theorem lc2_f {K : PySem.W.Frag} {gi gi1 : Env → M (List D)} {g g1 : TG} {bs bs1 : D → Option (List (Nat × D))} {is is1 vs vs1 : List Nat} {c c1 : Env → M Bool} {e : Env → M D} (tg : TgOk K g bs is) (tg1 : TgOk K g1 bs1 is1) (his : ∀ i ∈ is, i ∈ vs) (his1 : ∀ i ∈ is1, i ∈ vs1) :
    ∀ σ H Q, tN K (fun ρ => M.bind (gi ρ) fun xs => M.bind (compM2 bs c gi1 bs1 c1 e vs1 (wipeD ρ vs) xs) fun ys => M.guard (szL ys) (M.ret ys)) σ H Q → tLc2 (iF K gi) g (tFT K c) (iF K gi1) g1 (tFT K c1) (tF K e) vs vs1 σ H Q := by
  rintro σ H Q ⟨ρ, G, b, ds, b', rs, fz, ob, e0, q⟩
  obtain ⟨xs, b1, e1, e2⟩ := M.bind_some e0
  obtain ⟨ys, b2, e2, e3⟩ := M.bind_some e2
  obtain ⟨hz, e4⟩ := M.guard_some e3
  cases e4
  have hz1 : ds.length ≤ sizeLine := of_decide_eq_true hz
  refine ⟨ρ, G, b, xs, b1, rs, fz, ob, e1, fun J G1 H1 n1 yl Dd hD => ?_⟩
  have m0 : Nxt G1 H1 b1 G1 (upd H1 Dd (.lst [])) b1 := Nxt.newH n1.fz n1.bag hD
  refine ⟨fun i m H2 => m = xs.length - i ∧ i ≤ xs.length ∧ ∃ G2 bb accv acc rest, Nxt G H b G2 H2 bb ∧ Same G1 G2 ∧ G2 Dd = none ∧ H2 Dd = some (.lst accv) ∧ RpL K G2 accv acc ∧ compM2 bs c gi1 bs1 c1 e vs1 (wipeD ρ vs) (xs.drop i) bb = some (rest, b') ∧ acc ++ rest = ds,
    ⟨xs.length, by simp, Nat.zero_le _, G1, b1, [], [], ds, n1.trans m0, fun _ _ h => h, gnone n1.fz hD, upd_same, .nil, by simpa using e2, rfl⟩, ?_⟩
  rintro i m H2 ⟨rfl, hi, G2, bb, accv, acc, rest, n2, s12, gD, hDd, ra, ec, ea⟩
  have Y := yl i G2 H2 bb s12 n2.fz n2.bag
  by_cases hlt : i < xs.length
  · have hx : xs[i]? = some xs[i] := List.getElem?_eq_getElem hlt
    have hdr : xs.drop i = xs[i] :: xs.drop (i + 1) := List.drop_eq_getElem_cons hlt
    obtain ⟨hgo, hy⟩ := Y.1 _ hx
    refine .inr ⟨hgo, fun H3 => ∃ G2 bb accv acc rest, Nxt G H b G2 H3 bb ∧ Same G1 G2 ∧ G2 Dd = none ∧ H3 Dd = some (.lst accv) ∧ RpL K G2 accv acc ∧ compM2 bs c gi1 bs1 c1 e vs1 (wipeD ρ vs) (xs.drop (i + 1)) bb = some (rest, b') ∧ acc ++ rest = ds,
      fun H' h' => ⟨xs.length - (i + 1), by omega, rfl, hlt, h'⟩, fun x H3 hyl => ?_⟩
    obtain ⟨G3, n3, rx⟩ := hy x H3 hyl
    rw [hdr] at ec
    unfold compM2 at ec
    cases eb : bs xs[i] with
    | none => rw [eb] at ec; cases ec
    | some l =>
      rw [eb] at ec
      obtain ⟨lv, pl, il, gq⟩ := tg G3 x xs[i] l rx eb
      refine gq H3 _ _ n3.fz ?_
      have rsb : RS K G3 (setAll (wipe σ vs) lv) (setAllD (wipeD ρ vs) l) := by
        refine RS.setAll pl (RS.wipe (rs.mono ?_) vs)
        exact fun a o h => n3.gg a o (n2.gg a o h)
      refine ⟨?_, ?_⟩
      · rw [wipe_setAll fun p hp => his _ (il p hp)]
        exact wipe_wipe fun v hv => hv
      · obtain ⟨k, b3, ek, ec⟩ := M.bind_some ec
        have gD3 : G3 Dd = none := n3.new Dd _ hDd gD
        have nb : bb.at ≠ some Dd := by rw [← Bs.like_at n2.like]; exact bag_ne ob (n1.free hD)
        have hD3 : H3 Dd = some (.lst accv) := n3.keep Dd _ hDd nb
        refine ⟨_, G3, bb, k, b3, rsb, n3.fz, n3.bag, ek, fun G4 H4 n4 => ?_⟩
        have gD4 : G4 Dd = none := n4.new Dd _ hD3 gD3
        have hD4 : H4 Dd = some (.lst accv) := n4.keep Dd _ hD3 nb
        have nb3 : b3.at ≠ some Dd := by rw [← Bs.like_at n4.like]; exact nb
        cases k with
        | false =>
          refine iteF ⟨G4, b3, accv, acc, rest, (n2.trans n3).trans n4, fun a o h => n4.gg a o (n3.gg a o (s12 a o h)), gD4, hD4, (ra.mono n3.gg).mono n4.gg, ec, ea⟩
        | true =>
          refine iteT ?_
          obtain ⟨ts, b4, et, ec⟩ := M.bind_some ec
          obtain ⟨zs, b5, ezs, ec⟩ := M.bind_some ec
          obtain ⟨ws, b6, ews, ec⟩ := M.bind_some ec
          cases ec
          refine ⟨_, G4, b3, ts, b4, rsb.mono n4.gg, n4.fz, n4.bag, et, fun J1 G5 H5 n5 yl1 => ?_⟩
          have gD5 : G5 Dd = none := n5.new Dd _ hD4 gD4
          have hD5 : H5 Dd = some (.lst accv) := n5.keep Dd _ hD4 nb3
          have n25 : Nxt G H b G5 H5 b4 := ((n2.trans n3).trans n4).trans n5
          have s15 : Same G1 G5 := fun a o h => n5.gg a o (n4.gg a o (n3.gg a o (s12 a o h)))
          have ra5 : RpL K G5 accv acc := ((ra.mono n3.gg).mono n4.gg).mono n5.gg
          have rs5 : RS K G5 (setAll (wipe σ vs) lv) (setAllD (wipeD ρ vs) l) := (rsb.mono n4.gg).mono n5.gg
          refine ⟨fun j m H6 => m = ts.length - j ∧ j ≤ ts.length ∧ ∃ G6 bb accv acc rest, Nxt G H b G6 H6 bb ∧ Same G1 G6 ∧ Same G5 G6 ∧ G6 Dd = none ∧ H6 Dd = some (.lst accv) ∧ RpL K G6 accv acc ∧ compM bs1 c1 e (wipeD (setAllD (wipeD ρ vs) l) vs1) (ts.drop j) bb = some (rest, b5) ∧ acc ++ (rest ++ ws) = ds,
            ⟨ts.length, by simp, Nat.zero_le _, G5, b4, accv, acc, zs, n25, s15, fun _ _ h => h, gD5, hD5, ra5, by simpa using ezs, ea⟩, ?_⟩
          rintro j m2 H6 ⟨rfl, hj, G6, bb6, accv6, acc6, rest6, n6, s16, s56, gD6, hD6, ra6, ec6, ea6⟩
          have Y1 := yl1 j G6 H6 bb6 s56 n6.fz n6.bag
          by_cases hjl : j < ts.length
          · have hx1 : ts[j]? = some ts[j] := List.getElem?_eq_getElem hjl
            have hdr1 : ts.drop j = ts[j] :: ts.drop (j + 1) := List.drop_eq_getElem_cons hjl
            obtain ⟨hgo1, hy1⟩ := Y1.1 _ hx1
            refine .inr ⟨hgo1, fun H7 => ∃ G6 bb accv acc rest, Nxt G H b G6 H7 bb ∧ Same G1 G6 ∧ Same G5 G6 ∧ G6 Dd = none ∧ H7 Dd = some (.lst accv) ∧ RpL K G6 accv acc ∧ compM bs1 c1 e (wipeD (setAllD (wipeD ρ vs) l) vs1) (ts.drop (j + 1)) bb = some (rest, b5) ∧ acc ++ (rest ++ ws) = ds,
              fun H' h' => ⟨ts.length - (j + 1), by omega, rfl, hjl, h'⟩, fun x1 H7 hyl1 => ?_⟩
            obtain ⟨G7, n7, rx1⟩ := hy1 x1 H7 hyl1
            rw [hdr1] at ec6
            unfold compM at ec6
            cases eb1 : bs1 ts[j] with
            | none => rw [eb1] at ec6; cases ec6
            | some l1 =>
              rw [eb1] at ec6
              obtain ⟨lv1, pl1, il1, gq1⟩ := tg1 G7 x1 ts[j] l1 rx1 eb1
              refine gq1 H7 _ _ n7.fz ?_
              have rsb1 : RS K G7 (setAll (wipe (setAll (wipe σ vs) lv) vs1) lv1) (setAllD (wipeD (setAllD (wipeD ρ vs) l) vs1) l1) := by
                refine RS.setAll pl1 (RS.wipe (rs5.mono ?_) vs1)
                exact fun a o h => n7.gg a o (s56 a o h)
              refine ⟨?_, ?_⟩
              · rw [wipe_setAll fun p hp => his1 _ (il1 p hp)]
                exact wipe_wipe fun v hv => hv
              · obtain ⟨k, b7, ek, ec7⟩ := M.bind_some ec6
                have gD7 : G7 Dd = none := n7.new Dd _ hD6 gD6
                have nb6 : bb6.at ≠ some Dd := by rw [← Bs.like_at n6.like]; exact bag_ne ob (n1.free hD)
                have hD7 : H7 Dd = some (.lst accv6) := n7.keep Dd _ hD6 nb6
                refine ⟨_, G7, bb6, k, b7, rsb1, n7.fz, n7.bag, ek, fun G8 H8 n8 => ?_⟩
                have gD8 : G8 Dd = none := n8.new Dd _ hD7 gD7
                have hD8 : H8 Dd = some (.lst accv6) := n8.keep Dd _ hD7 nb6
                have nb7 : b7.at ≠ some Dd := by rw [← Bs.like_at n8.like]; exact nb6
                cases k with
                | false =>
                  refine iteF ⟨G8, b7, accv6, acc6, rest6, (n6.trans n7).trans n8, fun a o h => n8.gg a o (n7.gg a o (s16 a o h)), fun a o h => n8.gg a o (n7.gg a o (s56 a o h)), gD8, hD8, (ra6.mono n7.gg).mono n8.gg, ec7, ea6⟩
                | true =>
                  refine iteT ?_
                  obtain ⟨y, b8, ey, ec8⟩ := M.bind_some ec7
                  obtain ⟨ys2, b9, ey2, ec8⟩ := M.bind_some ec8
                  cases ec8
                  refine ⟨_, G8, b7, y, b8, rsb1.mono n8.gg, n8.fz, n8.bag, ey, fun v G9 H9 n9 rv => ?_⟩
                  have gD9 : G9 Dd = none := n9.new Dd _ hD8 gD8
                  have hD9 : H9 Dd = some (.lst accv6) := n9.keep Dd _ hD8 nb7
                  have la : accv6.length = acc6.length := ra6.length
                  have lz : acc6.length < sizeLine := by
                    have := congrArg List.length ea6
                    simp at this
                    omega
                  refine ⟨accv6, hD9, by rw [la]; exact lz, ?_⟩
                  refine ⟨G9, b8, accv6 ++ [v], acc6 ++ [y], ys2, (((n6.trans n7).trans n8).trans n9).mut ob (n1.free hD) gD9, fun a o h => n9.gg a o (n8.gg a o (n7.gg a o (s16 a o h))), fun a o h => n9.gg a o (n8.gg a o (n7.gg a o (s56 a o h))), gD9, upd_same, (((ra6.mono n7.gg).mono n8.gg).mono n9.gg).append (.cons rv .nil), ey2, ?_⟩
                  rw [← ea6]; simp
          · have e : j = ts.length := by omega
            subst e
            refine .inl ⟨Y1.2 (Nat.le_refl _), ?_⟩
            have hr : ts.drop ts.length = [] := by simp
            rw [hr] at ec6
            cases ec6
            simp at ea6
            exact ⟨G6, b5, accv6, acc6, ws, n6, s16, gD6, hD6, ra6, ews, ea6⟩
  · have e : i = xs.length := by omega
    subst e
    refine .inl ⟨Y.2 (Nat.le_refl _), ?_⟩
    have hr : xs.drop xs.length = [] := by simp
    rw [hr] at ec
    cases ec
    simp at ea
    subst ea
    exact q Dd accv G2 H2 n2 (n1.free hD) gD hDd ra
def nLc2 (vs vs1 : List Nat) (gi : Env → M (List D)) (bs : D → Option (List (Nat × D))) (c : Env → M Bool) (gi1 : Env → M (List D)) (bs1 : D → Option (List (Nat × D))) (c1 : Env → M Bool) (e : Env → M D) : Env → M (List D) := fun ρ => M.bind (gi ρ) fun xs => M.bind (compM2 bs c gi1 bs1 c1 e vs1 (wipeD ρ vs) xs) fun ys => M.guard (szL ys) (M.ret ys)
theorem dn_lc2 {elt tg iter tg1 iter1 : Expr} {ifs ifs1 : List Expr} {scope : Scope} {own : List (Str × Nat)} {vs1 : List Nat} {gi gi1 : Env → M (List D)} {g g1 : TG} {bs bs1 : D → Option (List (Nat × D))} {is is1 : List Nat} {c c1 : Env → M Bool} {e : Env → M D}
    (hc : X.calm = true) (hN : X.N.Nodup) (hi : DI X tg iter gi) (ok : BlkOk X.N X.env.scope scope own) (hv : vs1.all (fun i => (own.map (·.2)).contains i) = true) (ht : TgOk X.K g bs is) (ht1 : TgOk X.K g1 bs1 is1) (his : is.all (fun i => (own.map (·.2)).contains i) = true) (his1 : is1.all (fun i => vs1.contains i) = true)
    (hg : ∀ (s : Shared) (H : Hp) (C : Addr) (cl : List (Str × Addr)) (fp : List Addr), PG (X.blk s H scope (compEnvC scope cl C X.env) fp) tg g) (htt : ∀ (s : Shared) (H : Hp) (C : Addr) (cl : List (Str × Addr)) (fp : List Addr), DTs (X.blk s H scope (compEnvC scope cl C X.env) fp) ifs c)
    (hi1 : ∀ (s : Shared) (H : Hp) (C : Addr) (cl : List (Str × Addr)) (fp : List Addr), DI (X.blk s H scope (compEnvC scope cl C X.env) fp) tg1 iter1 gi1)
    (hg1 : ∀ (s : Shared) (H : Hp) (C : Addr) (cl : List (Str × Addr)) (fp : List Addr), PG (X.blk s H scope (compEnvC scope cl C X.env) fp) tg1 g1) (htt1 : ∀ (s : Shared) (H : Hp) (C : Addr) (cl : List (Str × Addr)) (fp : List Addr), DTs (X.blk s H scope (compEnvC scope cl C X.env) fp) ifs1 c1)
    (he : ∀ (s : Shared) (H : Hp) (C : Addr) (cl : List (Str × Addr)) (fp : List Addr), DE (X.blk s H scope (compEnvC scope cl C X.env) fp) elt e) (hs : ∀ x, foldedSetIterable iter X.env x = pure x := by intro _; rfl) (hs1 : ∀ env x, foldedSetIterable iter1 env x = pure x := by intro _ _; rfl) :
    DN X (.ListComp elt [⟨tg, iter, ifs, 0⟩, ⟨tg1, iter1, ifs1, 0⟩] scope pos) (nLc2 (own.map (·.2)) vs1 gi bs c gi1 bs1 c1 e) :=
  PEimp (pe_lc2 hc hN hi ok (fun i hi => by have := List.all_eq_true.mp hv i hi; simpa using this) hg htt hi1 hg1 htt1 he hs hs1) (lc2_f ht ht1 (fun i hi => by have := List.all_eq_true.mp his i hi; simpa using this) (fun i hi => by have := List.all_eq_true.mp his1 i hi; simpa using this))
theorem s_setLc2 (i : Nat) (ms : List Nat) {y : Str} {py : Pos} {elt tg iter tg1 iter1 : Expr} {ifs ifs1 : List Expr} {scope : Scope} {own : List (Str × Nat)} {vs1 : List Nat} {cpos : Pos} {gi gi1 : Env → M (List D)} {g g1 : TG} {bs bs1 : D → Option (List (Nat × D))} {is is1 : List Nat} {c c1 : Env → M Bool} {e : Env → M D}
    (hc : X.calm = true) (hN : X.N.Nodup) (hy : X.N[i]? = some y) (hyl : X.env.scope.names.lookup y = some .local)
    (hsw : swapsWith (.ListComp elt [⟨tg, iter, ifs, 0⟩, ⟨tg1, iter1, ifs1, 0⟩] scope cpos) (some (.Name y py)) pos.line X.env = pure true) (hi : DI X tg iter gi) (ok : BlkOk X.N X.env.scope scope own) (hv : vs1.all (fun i => (own.map (·.2)).contains i) = true) (ht : TgOk X.K g bs is) (ht1 : TgOk X.K g1 bs1 is1) (his : is.all (fun i => (own.map (·.2)).contains i) = true) (his1 : is1.all (fun i => vs1.contains i) = true)
    (hg : ∀ (s : Shared) (H : Hp) (C : Addr) (cl : List (Str × Addr)) (fp : List Addr), PG (X.blk s H scope (compEnvC scope cl C X.env) fp) tg g) (htt : ∀ (s : Shared) (H : Hp) (C : Addr) (cl : List (Str × Addr)) (fp : List Addr), DTs (X.blk s H scope (compEnvC scope cl C X.env) fp) ifs c)
    (hi1 : ∀ (s : Shared) (H : Hp) (C : Addr) (cl : List (Str × Addr)) (fp : List Addr), DI (X.blk s H scope (compEnvC scope cl C X.env) fp) tg1 iter1 gi1)
    (hg1 : ∀ (s : Shared) (H : Hp) (C : Addr) (cl : List (Str × Addr)) (fp : List Addr), PG (X.blk s H scope (compEnvC scope cl C X.env) fp) tg1 g1) (htt1 : ∀ (s : Shared) (H : Hp) (C : Addr) (cl : List (Str × Addr)) (fp : List Addr), DTs (X.blk s H scope (compEnvC scope cl C X.env) fp) ifs1 c1)
    (he : ∀ (s : Shared) (H : Hp) (C : Addr) (cl : List (Str × Addr)) (fp : List Addr), DE (X.blk s H scope (compEnvC scope cl C X.env) fp) elt e) (hs : ∀ x, foldedSetIterable iter X.env x = pure x := by intro _; rfl) (hs1 : ∀ env x, foldedSetIterable iter1 env x = pure x := by intro _ _; rfl) :
    DS X (.Assign [.Name y py] (.ListComp elt [⟨tg, iter, ifs, 0⟩, ⟨tg1, iter1, ifs1, 0⟩] scope cpos) pos) (setNM i ms (nLc2 (own.map (·.2)) vs1 gi bs c gi1 bs1 c1 e)) := by
  refine PSimp (ps_setLc2 (wi1 := iF X.K gi1) (te := tF X.K e) (tt := tFT X.K c) (tt1 := tFT X.K c1) hc hN hy hyl hsw hi ok (fun i hi => by have := List.all_eq_true.mp hv i hi; simpa using this) hg htt hi1 hg1 htt1 he hs hs1) ?_
  rintro D σ H ⟨E, ρ, G, b, o, b', I, e, q⟩
  obtain ⟨xs, b1, e1, e2⟩ := M.bind_some e
  cases e2
  refine lc2_f ht ht1 (fun i hi => by have := List.all_eq_true.mp his i hi; simpa using this) (fun i hi => by have := List.all_eq_true.mp his1 i hi; simpa using this) σ H _ ⟨_, _, b, xs, b', I.rs ms, I.gp2 ms, I.gpb ms, e1, fun p vs G1 H1 n1 hp gn hh r => ?_⟩
  obtain ⟨G2, I2⟩ := I.newOwn n1 i hp gn hh r
  exact q _ G2 H1 I2
end
end DL
set_option Elab.async false
set_option maxRecDepth 100000
set_option autoImplicit false
set_option linter.unusedVariables false
set_option maxHeartbeats 4000000
namespace DL
open PySem L2
/-! ### keys -/
def keyD : D → Option Key
  | .int i => some (.inl i)
  | .str x => some (.inr ⟨x.toArray⟩)
  | _ => none
theorem keyD_of {K : PySem.W.Frag} {G : Hp} {v : V} {d : D} {k : Key} (r : Rp K G v d) (h : keyD d = some k) : v = kV k := by
  cases r <;> cases h <;> rfl
def keysD : List D → Option (List Key)
  | [] => some []
  | d :: r => match keyD d, keysD r with
    | some k, some ks => some (k :: ks)
    | _, _ => none
theorem keysD_of {K : PySem.W.Frag} {G : Hp} : ∀ {vs : List V} {ds : List D} {ks : List Key}, RpL K G vs ds → keysD ds = some ks → vs = ks.map kV
  | _, _, _, .nil, h => by cases h; rfl
  | _, _, ks, .cons (d := d) (ds := ds) r rl, h => by
    unfold keysD at h
    cases e1 : keyD d with
    | none => simp only [e1] at h; cases h
    | some k =>
      cases e2 : keysD ds with
      | none => simp only [e1, e2] at h; cases h
      | some ks' =>
        simp only [e1, e2] at h
        cases h
        rw [keyD_of r e1, keysD_of rl e2]; rfl
section
variable {κ α β : Type} [DecidableEq κ]
def getK (ks : List κ) (ds : List α) (k : κ) : Option α := ((ks.zip ds).find? fun p => decide (p.1 = k)).map (·.2)
def repK (ks : List κ) (ds : List α) (k : κ) (d : α) : List α := (ks.zip ds).map fun p => if p.1 = k then d else p.2
def setKs (ks : List κ) (k : κ) : List κ := if k ∈ ks then ks else ks ++ [k]
def setVs (ks : List κ) (ds : List α) (k : κ) (d : α) : List α := if k ∈ ks then repK ks ds k d else ds ++ [d]
theorem any_key : ∀ (ks : List κ) (ds : List α) (k : κ), ks.length = ds.length → ((ks.zip ds).any fun kv => decide (kv.1 = k)) = decide (k ∈ ks)
  | [], _, _, _ => rfl
  | a :: ks, d :: ds, k, h => by
    rw [List.zip_cons_cons, List.any_cons, any_key ks ds k (by simpa using h)]
    by_cases e : a = k
    · simp [e]
    · have : ¬ k = a := fun z => e z.symm
      simp [e, this]
  | _ :: _, [], _, h => by simp at h
theorem repK_len (ks : List κ) (ds : List α) (k : κ) (d : α) (h : ks.length = ds.length) : (repK ks ds k d).length = ds.length := by
  simp [repK, h]
theorem setK_len (ks : List κ) (ds : List α) (k : κ) (d : α) (h : ks.length = ds.length) : (setKs ks k).length = (setVs ks ds k d).length := by
  unfold setKs setVs
  by_cases e : k ∈ ks
  · rw [if_pos e, if_pos e, repK_len ks ds k d h, h]
  · rw [if_neg e, if_neg e]; simp [h]
theorem zip_rep : ∀ (ks : List κ) (ds : List α) (k : κ) (d : α), ks.length = ds.length → (ks.zip ds).map (fun kv => if kv.1 = k then (kv.1, d) else kv) = ks.zip (repK ks ds k d)
  | [], _, _, _, _ => rfl
  | a :: ks, x :: ds, k, d, h => by
    unfold repK
    rw [List.zip_cons_cons, List.map_cons, List.map_cons, List.zip_cons_cons]
    have ih := zip_rep ks ds k d (by simpa using h)
    unfold repK at ih
    rw [ih]
    by_cases e : a = k <;> simp [e]
  | _ :: _, [], _, _, h => by simp at h
end
theorem putK_zip {κ : Type} [DecidableEq κ] (ks : List κ) (vs : List V) (k : κ) (v : V) (h : ks.length = vs.length) : putK (ks.zip vs) k v = (setKs ks k).zip (setVs ks vs k v) := by
  unfold putK setKs setVs
  rw [any_key ks vs k h]
  by_cases e : k ∈ ks
  · rw [if_pos e, if_pos e, if_pos (by simpa using e), zip_rep ks vs k v h]
  · rw [if_neg e, if_neg e, if_neg (by simpa using e), List.zip_append h]; rfl
theorem valV_zip {κ : Type} [DecidableEq κ] (ks : List κ) (vs : List V) (k : κ) : valV (ks.zip vs) k = getK ks vs k := rfl
theorem RpL.getK {κ : Type} [DecidableEq κ] {K : PySem.W.Frag} {G : Hp} (k : κ) : ∀ {ks : List κ} {vs : List V} {ds : List D}, RpL K G vs ds → (∀ d, DL.getK ks ds k = some d → ∃ v, DL.getK ks vs k = some v ∧ Rp K G v d) ∧ (DL.getK ks ds k = none → DL.getK ks vs k = none)
  | [], _, _, _ => ⟨fun d h => (by cases h), fun _ => rfl⟩
  | a :: ks, _, _, .nil => ⟨fun d h => (by cases h), fun _ => rfl⟩
  | a :: ks, _, _, .cons (v := v) (vs := vs) (d := d) (ds := ds) r rl => by
    have ih := RpL.getK k (ks := ks) rl
    unfold DL.getK at ih ⊢
    rw [List.zip_cons_cons, List.zip_cons_cons, List.find?_cons, List.find?_cons]
    by_cases e : a = k
    · simp only [e, decide_true]
      exact ⟨fun d' h => by cases h; exact ⟨v, rfl, r⟩, fun h => by cases h⟩
    · simp only [e, decide_false]
      exact ih
theorem RpL.setVs {κ : Type} [DecidableEq κ] {K : PySem.W.Frag} {G : Hp} {v : V} {d : D} (r : Rp K G v d) {ks : List κ} {k : κ} {vs : List V} {ds : List D} (rl : RpL K G vs ds) : RpL K G (DL.setVs ks vs k v) (DL.setVs ks ds k d) := by
  unfold DL.setVs
  by_cases e : k ∈ ks
  · rw [if_pos e, if_pos e]
    clear e
    unfold repK
    induction ks generalizing vs ds with
    | nil => exact .nil
    | cons a ks ih =>
      cases rl with
      | nil => exact .nil
      | cons r1 r2 =>
        rw [List.zip_cons_cons, List.zip_cons_cons, List.map_cons, List.map_cons]
        refine .cons ?_ (ih r2)
        by_cases e : a = k
        · simp only [e, if_pos]; exact r
        · simp only [e, if_neg, if_false]; exact r1
  · rw [if_neg e, if_neg e]
    exact rl.append (.cons r .nil)
/-! ### in, [] of dicts -/
section
variable {X : Cx} {a b : Expr} {f g : Env → M D} {pos : Pos}
def rDIn (neg : Bool) : R2 := fun y x H Q => ∃ p o, x = .ref p ∧ DGet H p y o ∧ Q (.bl (if neg then !o.isSome else o.isSome)) H
theorem op_din (hu : X.A.units + 1 < cLine) : OpR X (compareOp .In) (rDIn false) := by
  intro pins s σ H y x u v Q I ry rx h
  obtain ⟨p, o, rfl, g, q⟩ := h
  obtain rfl : v = Value.ref p := rx
  exact _root_.L2.d_in hu I g ry fun s3 I3 => ⟨.bl o.isSome, H, I3, rfl, q⟩
theorem op_dnotin (hu : X.A.units + 1 < cLine) : OpR X (compareOp .NotIn) (rDIn true) := by
  intro pins s σ H y x u v Q I ry rx h
  obtain ⟨p, o, rfl, g, q⟩ := h
  obtain rfl : v = Value.ref p := rx
  exact _root_.L2.d_notIn hu I g ry fun s3 I3 => ⟨.bl (!o.isSome), H, I3, rfl, q⟩
def inF (neg : Bool) : D → D → M D
  | x, .dct ks ds => match keyD x with
    | some k => M.ret (.bl (if neg then !(getK ks ds k).isSome else (getK ks ds k).isSome))
    | none => M.fail
  | x, y => inE neg x y
theorem snd_inF (neg : Bool) : SndR X.K (fun x y H Q => ((∃ (c : Nat) (z : Str), x = .str ⟨#[c]⟩ ∧ y = .str z ∧ Q (.bl (if neg then !decide (c ∈ z.cps.toList) else decide (c ∈ z.cps.toList))) H) ∨ rIn X.K neg x y H Q) ∨ rDIn neg x y H Q) (inF neg) := by
  intro G H b x y dx dy d b' Q rx ry f o e q
  cases ry with
  | @dct p ks vs ds hg hl rl =>
    have e : (match keyD dx with | some k => M.ret (D.bl (if neg then !(getK ks ds k).isSome else (getK ks ds k).isSome)) | none => M.fail) b = some (d, b') := e
    cases ek : keyD dx with
    | none => rw [ek] at e; cases e
    | some k =>
      rw [ek] at e
      cases e
      have hk := keyD_of rx ek
      subst hk
      refine .inr ⟨p, _, rfl, .inl ⟨_, k, .inl (f _ _ hg), rfl, rfl⟩, ?_⟩
      obtain ⟨k1, k2⟩ := RpL.getK k (ks := ks) rl
      rw [valV_zip]
      have es : (getK ks vs k).isSome = (getK ks ds k).isSome := by
        cases ed : getK ks ds k with
        | none => rw [k2 ed]; rfl
        | some z => obtain ⟨u, h1, _⟩ := k1 z ed; rw [h1]; rfl
      rw [es]
      exact q _ G H (Nxt.refl f o) (.bl _)
  | non => exact .inl (snd_inE neg G H b x _ dx _ d b' Q rx .non f o e q)
  | bl k => exact .inl (snd_inE neg G H b x _ dx _ d b' Q rx (.bl k) f o e q)
  | int k => exact .inl (snd_inE neg G H b x _ dx _ d b' Q rx (.int k) f o e q)
  | str k => exact .inl (snd_inE neg G H b x _ dx _ d b' Q rx (.str k) f o e q)
  | lst h1 h2 => exact .inl (snd_inE neg G H b x _ dx _ d b' Q rx (.lst h1 h2) f o e q)
  | tup h1 h2 => exact .inl (snd_inE neg G H b x _ dx _ d b' Q rx (.tup h1 h2) f o e q)
  | dcT h1 h2 h3 => exact .inl (snd_inE neg G H b x _ dx _ d b' Q rx (.dcT h1 h2 h3) f o e q)
  | obj h1 h2 h3 h4 => exact .inl (snd_inE neg G H b x _ dx _ d b' Q rx (.obj h1 h2 h3 h4) f o e q)
  | bag p => exact .inl (snd_inE neg G H b x _ dx _ d b' Q rx (.bag p) f o e q)
  | scr h => exact .inl (snd_inE neg G H b x _ dx _ d b' Q rx (.scr h) f o e q)
theorem t_inF (hu : X.A.units + 64 < cLine) (ha : DE X a f) (hb : DE X b g) (hm : behindInMarks .In b = false := by rfl) : DT X (.Compare a [.In] [b] pos) (t2 (inF false) f g) := t_cmp (op_inE.or (op_din (by omega))) (snd_inF false) ha hb hm
theorem d_inF (hu : X.A.units + 64 < cLine) (ha : DE X a f) (hb : DE X b g) (hm : behindInMarks .In b = false := by rfl) : DE X (.Compare a [.In] [b] pos) (e2 (inF false) f g) := d_cmp (op_inE.or (op_din (by omega))) (snd_inF false) ha hb hm
theorem t_notInF (hu : X.A.units + 64 < cLine) (ha : DE X a f) (hb : DE X b g) (hm : behindInMarks .NotIn b = false := by rfl) : DT X (.Compare a [.NotIn] [b] pos) (t2 (inF true) f g) := t_cmp (op_notInE.or (op_dnotin (by omega))) (snd_inF true) ha hb hm
theorem d_notInF (hu : X.A.units + 64 < cLine) (ha : DE X a f) (hb : DE X b g) (hm : behindInMarks .NotIn b = false := by rfl) : DE X (.Compare a [.NotIn] [b] pos) (e2 (inF true) f g) := d_cmp (op_notInE.or (op_dnotin (by omega))) (snd_inF true) ha hb hm
/-- d[k] -/
def rDIx : R2 := fun x y H Q => ∃ p v, x = .ref p ∧ DGet H p y (some v) ∧ Q v H
theorem ix_dict (hu : X.A.units + 1 < cLine) : IxR X rDIx := by
  intro value slice pins s σ H x y o i Q I rx ry h hs
  obtain ⟨p, v, rfl, g, q⟩ := h
  obtain rfl : o = Value.ref p := rx
  have hT := dict_typeIs I g
  have h₂ := d_getItem (A := X.A) (E := X.xe) (Q := fun r s3 => EP X pins σ Q r s3) hu I g ry fun w' s3 I3 rw' => ⟨v, H, I3, rw', q⟩
  unfold PyProof.Rows.subscriptTail
  refine wpAny_bind ?_
  rw [getitemInPython_of_ne hT.not_modules]
  refine wpAny_bind (wpAny_specialOf hT PySem.F.slot_dict_getitem.lookup ?_)
  have fin : wpAny (model X.prog X.w) X.A (subscripted slice false (.ref p) i) (fun r s₃ => wpAny (model X.prog X.w) X.A (letTemporaryGo value (.ref p) r >>= fun _ => pure r) (EP X pins σ Q) X.xe s₃) X.xe s := by
    rw [hs]
    exact wpAny_operating (wpAny_mono h₂ (fun r s₃ h₃ => wpAny_bind (wpAny_letTemporaryGo (wpAny_pure h₃))) fun _ _ x => x)
  first
    | exact wpAny_pure (wpAny_bind fin)
    | exact wpAny_bind (wpAny_pure (wpAny_bind fin))
    | exact wpAny_bind fin
def ixF : D → D → M D
  | .dct ks ds, y => match keyD y with
    | some k => M.of (getK ks ds k)
    | none => M.fail
  | x, y => ixD x y
theorem snd_ixF : SndR X.K (fun x y H Q => rIx X.K x y H Q ∨ rDIx x y H Q) ixF := by
  intro G H b x y dx dy d b' Q rx ry f o e q
  cases rx with
  | @dct p ks vs ds hg hl rl =>
    have e : (match keyD dy with | some k => M.of (getK ks ds k) | none => M.fail) b = some (d, b') := e
    cases ek : keyD dy with
    | none => rw [ek] at e; cases e
    | some k =>
      rw [ek] at e
      obtain ⟨e1, rfl⟩ := M.of_some' e
      have hk := keyD_of ry ek
      subst hk
      obtain ⟨k1, _⟩ := RpL.getK k (ks := ks) rl
      obtain ⟨v, h1, h2⟩ := k1 d e1
      refine .inr ⟨p, v, rfl, .inl ⟨_, k, .inl (f _ _ hg), rfl, ?_⟩, q _ G H (Nxt.refl f o) h2⟩
      rw [valV_zip, h1]
  | non => exact .inl (snd_ix G H b _ y _ dy d b' Q .non ry f o e q)
  | bl k => exact .inl (snd_ix G H b _ y _ dy d b' Q (.bl k) ry f o e q)
  | int k => exact .inl (snd_ix G H b _ y _ dy d b' Q (.int k) ry f o e q)
  | str k => exact .inl (snd_ix G H b _ y _ dy d b' Q (.str k) ry f o e q)
  | lst h1 h2 => exact .inl (snd_ix G H b _ y _ dy d b' Q (.lst h1 h2) ry f o e q)
  | tup h1 h2 => exact .inl (snd_ix G H b _ y _ dy d b' Q (.tup h1 h2) ry f o e q)
  | dcT h1 h2 h3 => exact .inl (snd_ix G H b _ y _ dy d b' Q (.dcT h1 h2 h3) ry f o e q)
  | obj h1 h2 h3 h4 => exact .inl (snd_ix G H b _ y _ dy d b' Q (.obj h1 h2 h3 h4) ry f o e q)
  | bag p => exact .inl (snd_ix G H b _ y _ dy d b' Q (.bag p) ry f o e q)
  | scr h => exact .inl (snd_ix G H b _ y _ dy d b' Q (.scr h) ry f o e q)
theorem d_ixF (hu : X.A.units + 64 < cLine) (ha : DE X a f) (hb : DE X b g) (hp : PlainIx b := by exact fun _ _ => rfl) : DE X (.Subscript a b pos) (e2 ixF f g) := d_ix0 (ix_seq.or (ix_dict (by omega))) snd_ixF ha hb hp
/-- len of a dict too -/
def lenG : List D → M D
  | [.dct ks ds] => M.ret (.int ks.length)
  | [.dcT ks ds] => M.ret (.int ks.length)
  | xs => lenF xs
theorem snd_lenG : SndC X.K (fun xs H Q => (∃ x n, xs = [x] ∧ LenV X.K x H n ∧ Q (.int n) H) ∨ ((∃ a kvs, xs = [V.ref a] ∧ H a = some (.dK kvs) ∧ Q (.int kvs.length) H) ∨ rLenT xs H Q)) lenG := by
  intro G H b vs ds d b' Q r fz ob e q
  unfold lenG at e
  split at e
  · obtain ⟨v, rfl, r1⟩ := r.one
    cases r1 with
    | @dct p ks vs ds hg hl rl =>
      cases e
      refine .inr (.inl ⟨p, _, rfl, fz _ _ hg, ?_⟩)
      rw [List.length_zip, ← hl, Nat.min_self]
      exact q _ G H (Nxt.refl fz ob) (.int _)
  · obtain ⟨v, rfl, r1⟩ := r.one
    cases r1 with
    | @dcT p ks vs ds hg hl rl =>
      cases e
      refine .inr (.inr ⟨p, _, rfl, fz _ _ hg, ?_⟩)
      rw [List.length_zip, ← hl, Nat.min_self]
      exact q _ G H (Nxt.refl fz ob) (.int _)
  · exact .inl (snd_len G H b vs _ d b' Q r fz ob e q)
theorem d_lenG {e : Expr} {fa : Env → M (List D)} {p : Pos} (hg : Gl X "len") (hm : X.mg "len" = none) (ha : DA X [e] fa) (he : starEach [e] X.env = (false, eval e X.env) :: starEach [] X.env := by rfl) : DE X (.Call (.Name "len" p) [e] [] pos) (eCall lenG fa) :=
  d_callB (call_len.or (call_lenD.or call_len_dT)) snd_lenG hg hm (by decide +kernel) ha (he := he)
/-! ### own dicts: {}, d[k] = v -/
def setDM (i : Nat) (o : O) (ρ : Env2) : M Out := M.ret (.nx (ρ.set i (some (.tr o))))
theorem s_set0K (i : Nat) {x : Str} {pos' p2 : Pos} (hN : X.N.Nodup) (hi : X.N[i]? = some x) (hx : Loc X.env.scope x) (hs : swapsWith (.Dict [] [] p2) (some (.Name x pos')) pos.line X.env = pure false := by rfl)
    (hf : X.fn x = true ∨ X.env.scope.names.lookup x = some .local := by first | exact .inl rfl | exact .inr rfl | assumption) : DS X (.Assign [.Name x pos'] (.Dict [] [] p2) pos) (setDM i (.k [] [])) := by
  refine PSimp (ps_set hN hi hx pe_dnewK hs hf) ?_
  rintro D σ H ⟨E, ρ, G, b, o, b', I, e, q⟩
  cases e
  intro p hp
  have n : Nxt (I.gp []) H b (I.gp []) (upd H p (.dK [])) b := Nxt.newH (I.gp2 []) (I.gpb []) hp
  obtain ⟨fp, w, fr⟩ := I.flatW n
  refine q _ G _ ((I.flat n).setTree (s := .tr (.k [] [])) (fq := [p]) rfl (.k (vs := []) (xs := []) (fp := []) upd_same rfl .nil) (by simp) (fun a ha => ?_) w fun a ha j hf => ?_)
  · simp at ha
    subst ha
    exact ⟨I.fresh hp, gnone I.fz hp, bag_ne I.bag hp, by rw [upd_same]; exact fun z => nomatch z⟩
  · simp at ha
    subst ha
    exact fr j a hf hp
theorem s_set0T (i : Nat) {x : Str} {pos' p2 : Pos} (hN : X.N.Nodup) (hi : X.N[i]? = some x) (hx : Loc X.env.scope x) (hs : swapsWith (.Dict [] [] p2) (some (.Name x pos')) pos.line X.env = pure false := by rfl)
    (hf : X.fn x = true ∨ X.env.scope.names.lookup x = some .local := by first | exact .inl rfl | exact .inr rfl | assumption) : DS X (.Assign [.Name x pos'] (.Dict [] [] p2) pos) (setDM i (.t [] [])) := by
  refine PSimp (ps_set hN hi hx pe_dnewT hs hf) ?_
  rintro D σ H ⟨E, ρ, G, b, o, b', I, e, q⟩
  cases e
  intro p hp
  have n : Nxt (I.gp []) H b (I.gp []) (upd H p (.dT [])) b := Nxt.newH (I.gp2 []) (I.gpb []) hp
  obtain ⟨fp, w, fr⟩ := I.flatW n
  refine q _ G _ ((I.flat n).setTree (s := .tr (.t [] [])) (fq := [p]) rfl (.t (vs := []) (xs := []) (fp := []) upd_same rfl .nil) (by simp) (fun a ha => ?_) w fun a ha j hf => ?_)
  · simp at ha
    subst ha
    exact ⟨I.fresh hp, gnone I.fz hp, bag_ne I.bag hp, by rw [upd_same]; exact fun z => nomatch z⟩
  · simp at ha
    subst ha
    exact fr j a hf hp
end
theorem OwL.append {K : PySem.W.Frag} {G H : Hp} : ∀ {vs ws : List V} {xs ys : List O} {fp fq : List Addr}, OwL K G H vs xs fp → OwL K G H ws ys fq → OwL K G H (vs ++ ws) (xs ++ ys) (fp ++ fq)
  | _, _, _, _, _, _, .nil, h => h
  | _, _, _, _, _, _, .cons a b, h => by
    rw [List.append_assoc]
    exact .cons a (OwL.append b h)
theorem OwL.setVs {κ : Type} [DecidableEq κ] {K : PySem.W.Frag} {G H : Hp} {v : V} {d : D} (r : Rp K G v d) {ks : List κ} {k : κ} {vs : List V} {os : List O} {fp : List Addr} (rl : OwL K G H vs os fp) : ∃ fq, OwL K G H (DL.setVs ks vs k v) (DL.setVs ks os k (.v d)) fq ∧ fq.Sublist fp := by
  unfold DL.setVs
  by_cases e : k ∈ ks
  · rw [if_pos e, if_pos e]
    clear e
    unfold repK
    induction ks generalizing vs os fp with
    | nil => exact ⟨[], .nil, List.nil_sublist _⟩
    | cons a ks ih =>
      cases rl with
      | nil => exact ⟨[], .nil, List.nil_sublist _⟩
      | @cons v1 vs1 x1 xs1 f1 f2 r1 r2 =>
        obtain ⟨fq, h1, h2⟩ := ih r2
        rw [List.zip_cons_cons, List.zip_cons_cons, List.map_cons, List.map_cons]
        by_cases e : a = k
        · simp only [e, if_pos]
          exact ⟨[] ++ fq, .cons (.v r) h1, by rw [List.nil_append]; exact h2.trans (List.sublist_append_right _ _)⟩
        · simp only [e, if_false]
          exact ⟨f1 ++ fq, .cons r1 h1, List.Sublist.append (List.Sublist.refl _) h2⟩
  · rw [if_neg e, if_neg e]
    refine ⟨fp ++ ([] ++ []), rl.append (.cons (.v r) .nil), by simp⟩
section
variable {X : Cx} {a b : Expr} {f g : Env → M D} {pos : Pos}
def dputK (ρ : Env2) (j : Nat) (k : Option Key) (d : D) : Option (Option Slot) → M Out
  | some (some (.tr (.k ks os))) => match k with
    | some k => M.guard (decide (ks.length < sizeLine)) (M.ret (.nx (ρ.set j (some (.tr (.k (setKs ks k) (setVs ks os k (.v d))))))))
    | none => M.fail
  | _ => M.fail
/-- x[k] = v, x an own dict whose keys are ints and texts; k ahead is a flat value -/
def dputM (j : Nat) (ms : List Nat) (fv fk : Env → M D) (ρ : Env2) : M Out := M.bind (fv (view ms ρ)) fun d => M.bind (fk (view ms (keepIf d.flat ms ρ))) fun y => dputK (keepIf d.flat ms ρ) j (keyD y) d (keepIf d.flat ms ρ)[j]?
theorem keepIf_tr {c : Bool} {ms : List Nat} {ρ : Env2} {j : Nat} {o : O} (h : (keepIf c ms ρ)[j]? = some (some (.tr o))) : ρ[j]? = some (some (.tr o)) := by
  unfold keepIf at h
  cases c with
  | true => exact h
  | false =>
    rcases frz_in (show (frz ms ρ)[j]? = _ from h) with ⟨_, s0, _, e⟩ | ⟨_, e⟩
    · cases e
    · exact e
theorem s_dput (j : Nat) (ms : List Nat) {x : Str} {i e : Expr} {fv fk : Env → M D} {p pos' : Pos} (hu : X.A.units + 64 < cLine) (hi : DE X i fk) (he : DE X e fv) (hN : X.N[j]? = some x := by rfl) (hv : Vis X.env.scope x := by first | exact Or.inl rfl | exact Or.inr (Or.inl rfl) | exact Or.inr (Or.inr rfl))
    (hd : (x == ("__debug__" : Str)) = false := by decide) (hcd : (x == ("__classdict__" : Str)) = false := by decide) (hs : swapsWith e (some (.Subscript (.Name x p) i pos')) pos.line X.env = pure false := by rfl) :
    DS X (.Assign [.Subscript (.Name x p) i pos'] e pos) (dputM j ms fv fk) := by
  refine PSimp (ps_dput (by omega) (pe_var hN hv hd hcd) hi he hs) ?_
  rintro D σ H ⟨E, ρ, G, b, o, b', I, e, q⟩
  obtain ⟨d, b1, e1, e2⟩ := M.bind_some e
  obtain ⟨y, b2, e2, e3⟩ := M.bind_some e2
  refine ⟨_, _, b, d, b1, I.rs ms, I.gp2 ms, I.gpb ms, e1, fun v G1 H1 n1 r => ?_⟩
  obtain ⟨G2, I2, r2⟩ := I.after n1 r
  obtain ⟨ks, os, ej⟩ : ∃ ks os, (keepIf d.flat ms ρ)[j]? = some (some (.tr (.k ks os))) := by
    cases ej : (keepIf d.flat ms ρ)[j]? with
    | none => rw [ej] at e3; cases e3
    | some s => cases s with
      | none => rw [ej] at e3; cases e3
      | some s => cases s with
        | val _ => rw [ej] at e3; cases e3
        | own _ => rw [ej] at e3; cases e3
        | tr o => cases o with
          | k ks os => exact ⟨ks, os, rfl⟩
          | v _ => rw [ej] at e3; cases e3
          | l _ => rw [ej] at e3; cases e3
          | t _ _ => rw [ej] at e3; cases e3
  rw [ej] at e3
  · cases ek : keyD y with
    | none => rw [ek] at e3; cases e3
    | some k =>
      rw [ek] at e3
      obtain ⟨hz, e4⟩ := M.guard_some e3
      cases e4
      obtain ⟨fp0, w0⟩ := I2.own
      obtain ⟨u, hu1, _⟩ := w0.at_ j _ _ ej rfl
      refine ⟨u, hu1, ?_⟩
      refine ⟨_, _, b1, y, b', I2.rs ms, I2.gp2 ms, I2.gpb ms, e2, fun v2 G3 H3 n3 r3 => ?_⟩
      have I3 := I2.flat n3
      obtain ⟨fp, w⟩ := I3.own
      obtain ⟨u', hu2, ow⟩ := w.at_ j _ _ ej rfl
      rw [hu1] at hu2
      cases hu2
      generalize hf : fp j = fj at ow
      cases ow with
      | @k pa _ vs _ fpv hpa hl rl =>
        have hky := keyD_of r3 ek
        subst hky
        have hlv : vs.length = os.length := rl.length
        refine ⟨pa, _, rfl, .inl ⟨_, k, hpa, rfl, ?_, rfl⟩, ?_⟩
        · rw [List.length_zip, ← hl, Nat.min_self]
          exact of_decide_eq_true hz
        · rw [putK_zip ks vs k v hl]
          have hnd := w.nd j
          rw [hf, List.nodup_cons] at hnd
          obtain ⟨fq, o1, o2⟩ := OwL.setVs (ks := ks) (k := k) r2 rl
          refine q σ G2 _ (I3.retree (s' := .tr (.k (setKs ks k) (setVs ks os k (.v d)))) (fq := pa :: fq) ej rfl hu1 w (.k upd_same (setK_len ks vs k v hl) (o1.mono (fun _ _ h => h) fun a ha => upd_ne fun z => hnd.1 (by rw [← z]; exact o2.subset ha))) ?_ (fun a ha => ?_) (fun a hf' _ => upd_ne fun z => hf' (by rw [z, hf]; exact List.mem_cons_self)))
          · rw [List.nodup_cons]
            exact ⟨fun h => hnd.1 (o2.subset h), hnd.2.sublist o2⟩
          · rcases List.mem_cons.mp ha with rfl | ha
            · exact .inl ⟨by rw [hf]; exact List.mem_cons_self, by rw [upd_same]; exact fun z => nomatch z⟩
            · have hm : a ∈ fp j := by rw [hf]; exact List.mem_cons_of_mem _ (o2.subset ha)
              refine .inl ⟨hm, ?_⟩
              rw [upd_ne fun z => hnd.1 (by rw [← z]; exact o2.subset ha)]
              exact (w.ok j a hm).2.2.2
end
end DL
set_option Elab.async false
set_option maxRecDepth 100000
set_option autoImplicit false
set_option linter.unusedVariables false
set_option maxHeartbeats 4000000
namespace DL
open PySem L2
/-! ### expressions that make objects of their own -/
mutual
def O.fl : O → Bool
  | .v d => d.flat
  | .l xs => O.fls xs
  | .k _ xs => O.fls xs
  | .t _ xs => O.fls xs
def O.fls : List O → Bool
  | [] => true
  | x :: r => x.fl && O.fls r
end
mutual
theorem Ow.flat_any {K : PySem.W.Frag} {G G' H : Hp} : ∀ {v : V} {o : O} {fp : List Addr}, Ow K G H v o fp → o.fl = true → Ow K G' H v o fp
  | _, _, _, .v r, h => .v (r.flat_any h)
  | _, _, _, .l hp r, h => .l hp (OwL.flat_any r h)
  | _, _, _, .k hp hl r, h => .k hp hl (OwL.flat_any r h)
  | _, _, _, .t hp hl r, h => .t hp hl (OwL.flat_any r h)
theorem OwL.flat_any {K : PySem.W.Frag} {G G' H : Hp} : ∀ {vs : List V} {os : List O} {fp : List Addr}, OwL K G H vs os fp → O.fls os = true → OwL K G' H vs os fp
  | _, _, _, .nil, _ => .nil
  | _, _, _, .cons a b, h => by
    have h : (_ && _) = true := h
    rw [Bool.and_eq_true] at h
    exact .cons (Ow.flat_any a h.1) (OwL.flat_any b h.2)
end
/-- fp is new since H, not frozen, and stands -/
def NewIn (H G' H' : Hp) (fp : List Addr) : Prop := (∀ a ∈ fp, H a = none ∧ G' a = none ∧ H' a ≠ none) ∧ fp.Nodup
def tO (K : PySem.W.Frag) (f : Env → M O) : TE := fun σ H Q => ∃ ρ G b o b', RS K G σ ρ ∧ Same G H ∧ BagOk G H b ∧ f ρ b = some (o, b') ∧
  ∀ v fp G' H', Nxt G H b G' H' b' → NewIn H G' H' fp → Ow K G' H' v o fp → Q v H'
def tOA (K : PySem.W.Frag) (f : Env → M (List O)) : TA := fun σ H Q => ∃ ρ G b os b', RS K G σ ρ ∧ Same G H ∧ BagOk G H b ∧ f ρ b = some (os, b') ∧
  ∀ vs fp G' H', Nxt G H b G' H' b' → NewIn H G' H' fp → OwL K G' H' vs os fp → Q vs H'
abbrev DOw (X : Cx) (e : Expr) (f : Env → M O) : Prop := PE X e (tO X.K f)
abbrev DOA (X : Cx) (es : List Expr) (f : Env → M (List O)) : Prop := PA X es (tOA X.K f)
def oV (f : Env → M D) : Env → M O := fun ρ => M.bind (f ρ) fun d => M.ret (.v d)
def oL (f : Env → M (List D)) : Env → M O := fun ρ => M.bind (f ρ) fun xs => M.ret (.l (xs.map O.v))
def oC (o : O) : Env → M O := fun _ => M.ret o
def oaN : Env → M (List O) := fun _ => M.ret []
def oaC (f : Env → M O) (g : Env → M (List O)) : Env → M (List O) := fun ρ => M.bind (f ρ) fun x => M.bind (g ρ) fun xs => M.ret (x :: xs)
def oLst (g : Env → M (List O)) : Env → M O := fun ρ => M.bind (g ρ) fun os => M.guard (decide (os.length ≤ sizeLine)) (M.ret (.l os))
section
variable {X : Cx} {pos : Pos}
theorem do_v {e : Expr} {f : Env → M D} (h : DE X e f) : DOw X e (oV f) := by
  refine PEimp h ?_
  rintro σ H Q ⟨ρ, G, b, d, b', rs, fz, ob, e, q⟩
  obtain ⟨x, b1, e1, e2⟩ := M.bind_some e
  cases e2
  exact ⟨ρ, G, b, x, b', rs, fz, ob, e1, fun v G' H' n r => q v [] G' H' n ⟨fun a ha => (nomatch ha), List.nodup_nil⟩ (.v r)⟩
theorem do_n {e : Expr} {f : Env → M (List D)} (h : DN X e f) : DOw X e (oL f) := by
  refine PEimp h ?_
  rintro σ H Q ⟨ρ, G, b, d, b', rs, fz, ob, e, q⟩
  obtain ⟨xs, b1, e1, e2⟩ := M.bind_some e
  cases e2
  refine ⟨ρ, G, b, xs, b', rs, fz, ob, e1, fun p vs G' H' n hp gp hh r => q (.ref p) [p] G' H' n ⟨fun a ha => ?_, by simp⟩ (.l hh (OwL.flat r))⟩
  simp at ha
  subst ha
  exact ⟨hp, gp, by rw [hh]; exact fun z => nomatch z⟩
theorem do_0K : DOw X (.Dict [] [] pos) (oC (.k [] [])) := by
  refine PEimp pe_dnewK ?_
  rintro σ H Q ⟨ρ, G, b, d, b', rs, fz, ob, e, q⟩
  cases e
  intro p hp
  refine q (.ref p) [p] G _ (Nxt.newH fz ob hp) ⟨fun a ha => ?_, by simp⟩ (.k (vs := []) upd_same rfl .nil)
  simp at ha
  subst ha
  exact ⟨hp, gnone fz hp, by rw [upd_same]; exact fun z => nomatch z⟩
theorem do_0T : DOw X (.Dict [] [] pos) (oC (.t [] [])) := by
  refine PEimp pe_dnewT ?_
  rintro σ H Q ⟨ρ, G, b, d, b', rs, fz, ob, e, q⟩
  cases e
  intro p hp
  refine q (.ref p) [p] G _ (Nxt.newH fz ob hp) ⟨fun a ha => ?_, by simp⟩ (.t (vs := []) upd_same rfl .nil)
  simp at ha
  subst ha
  exact ⟨hp, gnone fz hp, by rw [upd_same]; exact fun z => nomatch z⟩
theorem oa_nil : DOA X [] oaN := by
  refine PAimp pa_nil ?_
  rintro σ H Q ⟨ρ, G, b, d, b', r, f, o, e, q⟩
  cases e
  exact q [] [] G H (Nxt.refl f o) ⟨fun a ha => (nomatch ha), List.nodup_nil⟩ .nil
theorem NewIn.later {G H G1 H1 G2 H2 : Hp} {b b1 b2 : Bs} {fp : List Addr} (ob : BagOk G H b) (n1 : Nxt G H b G1 H1 b1) (n2 : Nxt G1 H1 b1 G2 H2 b2) (h : NewIn H G1 H1 fp) : NewIn H G2 H2 fp ∧ ∀ a ∈ fp, H2 a = H1 a := by
  have key : ∀ a ∈ fp, H2 a = H1 a := fun a ha => by
    obtain ⟨k1, k2, k3⟩ := h.1 a ha
    obtain ⟨u, hu⟩ := some_of k3
    rw [n2.keep a u hu (by rw [← Bs.like_at n1.like]; exact bag_ne ob k1), hu]
  refine ⟨⟨fun a ha => ?_, h.2⟩, key⟩
  obtain ⟨k1, k2, k3⟩ := h.1 a ha
  obtain ⟨u, hu⟩ := some_of k3
  exact ⟨k1, n2.new a u hu k2, by rw [key a ha]; exact k3⟩
theorem oa_cons {e : Expr} {es : List Expr} {f : Env → M O} {g : Env → M (List O)} (ha : DOw X e f) (hr : DOA X es g) (hs : starEach (e :: es) X.env = (false, eval e X.env) :: starEach es X.env := by rfl) : DOA X (e :: es) (oaC f g) := by
  refine PAimp (pa_cons ha hr hs) ?_
  rintro σ H Q ⟨ρ, G, b, d, b', rs, fz, ob, e, q⟩
  obtain ⟨x, b1, e1, e⟩ := M.bind_some e
  obtain ⟨xs, b2, e2, e3⟩ := M.bind_some e
  cases e3
  refine ⟨ρ, G, b, x, b1, rs, fz, ob, e1, fun v fp G1 H1 n1 w1 r1 => ?_⟩
  refine ⟨ρ, G1, b1, xs, b', rs.mono n1.gg, n1.fz, n1.bag, e2, fun vs fq G2 H2 n2 w2 r2 => ?_⟩
  obtain ⟨w1', k⟩ := w1.later ob n1 n2
  refine q (v :: vs) (fp ++ fq) G2 H2 (n1.trans n2) ⟨fun a ha => ?_, ?_⟩ (.cons (r1.mono n2.gg k) r2)
  · rcases List.mem_append.mp ha with h | h
    · exact w1'.1 a h
    · obtain ⟨k1, k2, k3⟩ := w2.1 a h
      exact ⟨n1.free k1, k2, k3⟩
  · rw [List.nodup_append]
    refine ⟨w1.2, w2.2, fun a h1 c h2 z => ?_⟩
    subst z
    exact (w1.1 a h1).2.2 (w2.1 a h2).1
theorem do_lst {es : List Expr} {g : Env → M (List O)} (h : DOA X es g) : DOw X (.List es pos) (oLst g) := by
  refine PEimp (pe_lst h) ?_
  rintro σ H Q ⟨ρ, G, b, d, b', rs, fz, ob, e, q⟩
  obtain ⟨os, b1, e1, e2⟩ := M.bind_some e
  obtain ⟨c, e3⟩ := M.guard_some e2
  cases e3
  refine ⟨ρ, G, b, os, b', rs, fz, ob, e1, fun vs fp G1 H1 n1 w1 r1 => ⟨by rw [r1.length]; exact of_decide_eq_true c, fun p hp => ?_⟩⟩
  have n2 : Nxt G1 H1 b' G1 (upd H1 p (.lst vs)) b' := Nxt.newH n1.fz n1.bag hp
  obtain ⟨w1', k⟩ := w1.later ob n1 n2
  refine q (.ref p) (p :: fp) G1 _ (n1.trans n2) ⟨fun a ha => ?_, ?_⟩ (.l upd_same (r1.mono (fun _ _ h => h) k))
  · rcases List.mem_cons.mp ha with rfl | ha
    · exact ⟨n1.free hp, gnone n1.fz hp, by rw [upd_same]; exact fun z => nomatch z⟩
    · exact w1'.1 a ha
  · rw [List.nodup_cons]
    exact ⟨fun z => (w1.1 p z).2.2 hp, w1.2⟩
end
theorem OwL.two {K : PySem.W.Frag} {G H : Hp} {v1 v2 : V} {o1 o2 : O} {fq : List Addr} (r : OwL K G H [v1, v2] [o1, o2] fq) : ∃ f1 f2, Ow K G H v1 o1 f1 ∧ Ow K G H v2 o2 f2 ∧ fq = f1 ++ f2 := by
  cases r with
  | @cons _ _ _ _ f1 f2 a b =>
    cases b with
    | @cons _ _ _ _ f3 f4 c d =>
      cases d
      exact ⟨f1, f3, a, c, by rw [List.append_nil]⟩
/-! ### stores of them -/
def leafs : List O → Option (List D)
  | [] => some []
  | .v d :: r => (leafs r).map (d :: ·)
  | _ => none
theorem leafs_map : ∀ xs : List D, leafs (xs.map O.v) = some xs
  | [] => rfl
  | x :: r => by show (leafs (r.map O.v)).map (x :: ·) = _; rw [leafs_map r]; rfl
theorem leafs_some : ∀ {os : List O} {ds : List D}, leafs os = some ds → os = ds.map O.v
  | [], _, h => by cases h; rfl
  | .v d :: r, ds, h => by
    have h : (leafs r).map (d :: ·) = some ds := h
    cases e : leafs r with
    | none => rw [e] at h; cases h
    | some l => rw [e] at h; cases h; rw [leafs_some e]; rfl
  | .l _ :: _, _, h => by cases h
  | .k _ _ :: _, _, h => by cases h
  | .t _ _ :: _, _, h => by cases h
def slotO : O → Slot
  | .v d => .val d
  | .l xs => match leafs xs with
    | some ds => .own ds
    | none => .tr (.l xs)
  | .k ks xs => .tr (.k ks xs)
  | .t ks xs => .tr (.t ks xs)
theorem slotO_tree : ∀ o : O, (∃ d, o = .v d ∧ slotO o = .val d) ∨ (slotO o).tree = some o
  | .v d => .inl ⟨d, rfl, rfl⟩
  | .k ks xs => .inr rfl
  | .t ks xs => .inr rfl
  | .l xs => by
    refine .inr ?_
    show (match leafs xs with | some ds => Slot.own ds | none => .tr (.l xs)).tree = _
    cases e : leafs xs with
    | none => rfl
    | some ds => show some (O.l (ds.map O.v)) = _; rw [leafs_some e]
section
variable {K : PySem.W.Frag} {E : En} {σ : L2.St} {ρ : Env2} {G H : Hp} {b : Bs}
/-- a slot gets what an expression made; w: the objects of the others are elsewhere -/
theorem SI.setO (I : SI K E σ ρ G H b) (i : Nat) {v : V} {o : O} {fq : List Addr} (hw : Ow K G H v o fq) (nd : fq.Nodup) (ok : ∀ a ∈ fq, E.H a = none ∧ G a = none ∧ b.at ≠ some a ∧ H a ≠ none) {fp : Nat → List Addr} (w : OwnAll K E.H σ ρ G H b fp) (dis : ∀ a ∈ fq, ∀ j, a ∉ fp j) :
    SI K E (σ.set i (some v)) (ρ.set i (some (slotO o))) G H b ∧ ∃ fp', OwnAll K E.H (σ.set i (some v)) (ρ.set i (some (slotO o))) G H b fp' ∧ ∀ j a, a ∈ fp' j → a ∈ fp j ∨ a ∈ fq := by
  rcases slotO_tree o with ⟨d, rfl, e⟩ | e
  · cases hw with
    | v r =>
      rw [e]
      refine ⟨I.set r, fp, ⟨fun j s o' h1 h2 => ?_, w.ok, w.nd, w.dj⟩, fun j a ha => .inl ha⟩
      by_cases hj : i = j
      · subst hj
        obtain ⟨e, hi⟩ := set_self h1
        subst e
        cases h2
      · obtain ⟨u, e1, e2⟩ := w.at_ j s o' (set_old hj h1) h2
        exact ⟨u, by rw [List.getElem?_set_ne hj]; exact e1, e2⟩
  · refine ⟨I.setTree e hw nd ok w dis, fun j => if j = i then fq else fp j, ⟨fun j s' o' h1 h2 => ?_, fun j a ha => ?_, fun j => ?_, fun j k a ha hb => ?_⟩, fun j a ha => ?_⟩
    · by_cases hj : i = j
      · subst hj
        obtain ⟨e2, hi⟩ := set_self h1
        rw [e2, e] at h2
        cases h2
        refine ⟨v, List.getElem?_set_self (Nat.lt_of_lt_of_le hi I.len), ?_⟩
        show Ow K G H v o (if i = i then fq else fp i)
        rw [if_pos rfl]
        exact hw
      · obtain ⟨u, e1, e2⟩ := w.at_ j s' o' (set_old hj h1) h2
        refine ⟨u, by rw [List.getElem?_set_ne hj]; exact e1, ?_⟩
        show Ow K G H u o' (if j = i then fq else fp j)
        rw [if_neg (Ne.symm hj)]
        exact e2
    · have ha : a ∈ (if j = i then fq else fp j) := ha
      split at ha
      · exact ok a ha
      · exact w.ok j a ha
    · show (if j = i then fq else fp j).Nodup
      split
      · exact nd
      · exact w.nd j
    · have ha : a ∈ (if j = i then fq else fp j) := ha
      have hb : a ∈ (if k = i then fq else fp k) := hb
      split at ha
      · rename_i ej
        split at hb
        · rename_i ek; rw [ej, ek]
        · exact absurd hb (dis a ha k)
      · split at hb
        · exact absurd ha (dis a hb j)
        · exact w.dj j k a ha hb
    · have ha : a ∈ (if j = i then fq else fp j) := ha
      split at ha
      · exact .inr ha
      · exact .inl ha
end
section
variable {X : Cx} {pos : Pos}
theorem SI.afterO {K : PySem.W.Frag} {E : En} {σ : L2.St} {ρ : Env2} {G H G' H' : Hp} {b b' : Bs} (I : SI K E σ ρ G H b) {ms : List Nat} (n : Nxt (I.gp ms) H b G' H' b') {vs : List V} {os : List O} {fq : List Addr} (r : OwL K G' H' vs os fq) (nw : NewIn H G' H' fq) :
    ∃ G2, SI K E σ (keepIf (O.fls os) ms ρ) G2 H' b' ∧ OwL K G2 H' vs os fq ∧ (∀ a ∈ fq, E.H a = none ∧ G2 a = none ∧ b'.at ≠ some a ∧ H' a ≠ none) ∧ ∃ fp, OwnAll K E.H σ (keepIf (O.fls os) ms ρ) G2 H' b' fp ∧ ∀ j a, a ∈ fp j → H a ≠ none := by
  unfold keepIf
  have nb : ∀ a ∈ fq, b'.at ≠ some a := fun a ha => by rw [← Bs.like_at n.like]; exact bag_ne I.bag (nw.1 a ha).1
  cases e : O.fls os with
  | true => exact ⟨G, I.flat n, r.flat_any e, fun a ha => ⟨I.fresh (nw.1 a ha).1, gnone I.fz (nw.1 a ha).1, nb a ha, (nw.1 a ha).2.2⟩, I.flatW n⟩
  | false => exact ⟨G', I.frz n, r, fun a ha => ⟨I.fresh (nw.1 a ha).1, (nw.1 a ha).2.1, nb a ha, (nw.1 a ha).2.2⟩, I.frzW n⟩
def setOM (i : Nat) (ms : List Nat) (f : Env → M O) (ρ : Env2) : M Out := M.bind (f (view ms ρ)) fun o => M.ret (.nx ((keepIf (O.fls [o]) ms ρ).set i (some (slotO o))))
theorem s_setO (i : Nat) (ms : List Nat) {x : Str} {e : Expr} {f : Env → M O} {pos' : Pos} (hN : X.N.Nodup) (hi : X.N[i]? = some x) (hx : Loc X.env.scope x) (he : DOw X e f) (hs : swapsWith e (some (.Name x pos')) pos.line X.env = pure false := by rfl)
    (hf : X.fn x = true ∨ X.env.scope.names.lookup x = some .local := by first | exact .inl rfl | exact .inr rfl | assumption) : DS X (.Assign [.Name x pos'] e pos) (setOM i ms f) := by
  refine PSimp (ps_set hN hi hx he hs hf) ?_
  rintro D σ H ⟨E, ρ, G, b, o, b', I, e, q⟩
  obtain ⟨x, b1, e1, e2⟩ := M.bind_some e
  cases e2
  refine ⟨_, _, b, x, b', I.rs ms, I.gp2 ms, I.gpb ms, e1, fun v fq G1 H1 n1 nw r => ?_⟩
  obtain ⟨G2, I2, r2, ok, fp, w, fr⟩ := I.afterO n1 (OwL.cons r .nil) (by rw [List.append_nil]; exact nw)
  rw [List.append_nil] at r2 ok
  have hw : Ow X.K G2 H1 v x fq := by
    generalize hfq : fq = z at r2
    cases r2 with
    | @cons _ _ _ _ f1 f2 a b =>
      cases b
      rw [List.append_nil]
      exact a
  exact q _ G2 H1 (I2.setO i hw nw.2 ok w fun a ha j hf => fr j a hf (nw.1 a ha).1).1
def parOK (i j : Nat) (ms : List Nat) (ρ : Env2) : List O → M Out
  | [o1, o2] => M.ret (.nx (((keepIf (O.fls [o1, o2]) ms ρ).set i (some (slotO o1))).set j (some (slotO o2))))
  | _ => M.fail
def parOM (i j : Nat) (ms : List Nat) (f : Env → M (List O)) (ρ : Env2) : M Out := M.bind (f (view ms ρ)) (parOK i j ms ρ)
theorem s_parO (i j : Nat) (ms : List Nat) {x y : Str} {a b : Expr} {f : Env → M (List O)} {px py pt : Pos} {kt k2 pt2} (hc : X.calm = true) (hN : X.N.Nodup) (hi : X.N[i]? = some x) (hj : X.N[j]? = some y) (hij : i ≠ j)
    (hx : X.env.scope.names.lookup x = some .local) (hy : X.env.scope.names.lookup y = some .local) (ha : DOA X [a, b] f)
    (hw : swappedStores [.Tuple [.Name x px, .Name y py] kt pt] (.Tuple [a, b] k2 pt2) X.env = pure (some [x, y]) := by rfl)
    (hs : swapsWithSole [.Tuple [.Name x px, .Name y py] kt pt] (.Tuple [a, b] k2 pt2) pos.line X.env = pure false := by rfl) :
    DS X (.Assign [.Tuple [.Name x px, .Name y py] kt pt] (.Tuple [a, b] k2 pt2) pos) (parOM i j ms f) := by
  refine PSimp (ps_par hc hN hi hj hij hx hy ha hw hs) ?_
  rintro D σ H ⟨E, ρ, G, b, o, b', I, e, q⟩
  obtain ⟨os, b1, e1, e2⟩ := M.bind_some e
  refine ⟨_, _, b, os, b1, I.rs ms, I.gp2 ms, I.gpb ms, e1, fun vs fq G1 H1 n1 nw r => ?_⟩
  clear e
  match os, e2, r with
  | [o1, o2], e2, .cons (v := v1) (fp := f1) r1 (.cons (v := v2) (fp := f2) r2 .nil) =>
    cases e2
    refine ⟨_, _, rfl, ?_⟩
    obtain ⟨G2, I2, rr, ok, fp, w, fr⟩ := I.afterO n1 (OwL.cons r1 (.cons r2 .nil)) nw
    obtain ⟨g1, g2, h1, h2, hq⟩ := rr.two
    rw [hq] at ok nw
    have nd := List.nodup_append.mp nw.2
    obtain ⟨I3, fp3, w3, sub3⟩ := I2.setO i h1 nd.1 (fun a ha => ok a (List.mem_append_left _ ha)) w fun a ha j hf => fr j a hf (nw.1 a (List.mem_append_left _ ha)).1
    refine q _ G2 H1 (I3.setO j h2 nd.2.1 (fun a ha => ok a (List.mem_append_right _ ha)) w3 fun a ha k hf => ?_).1
    rcases sub3 k a hf with z | z
    · exact fr k a z (nw.1 a (List.mem_append_right _ ha)).1
    · exact nd.2.2 a z a ha rfl
end
end DL
set_option Elab.async false
set_option maxRecDepth 100000
set_option autoImplicit false
set_option linter.unusedVariables false
set_option maxHeartbeats 4000000
namespace DL
open PySem L2
/-! ### x[c].append(e), x an own list of own lists -/
theorem OwL.appAt {K : PySem.W.Frag} {G H : Hp} : ∀ {vs : List V} {os : List O} {fp : List Addr} {c : Nat} {xs : List O}, OwL K G H vs os fp → os[c]? = some (.l xs) → ∃ (p : Addr) (ws : List V), vs[c]? = some (.ref p) ∧ p ∈ fp ∧ H p = some (.lst ws) ∧ ws.length = xs.length ∧
    ∀ (v : V) (d : D), Rp K G v d → fp.Nodup → OwL K G (upd H p (.lst (ws ++ [v]))) vs (os.set c (.l (xs ++ [.v d]))) fp
  | _, _, _, _, _, .nil, h => by simp at h
  | _, _, _, 0, xs, .cons (fp := f1) (fq := f2) a r, h => by
    simp at h
    subst h
    cases a with
    | @l p ws _ fx hp rx =>
      refine ⟨p, ws, rfl, by simp, hp, rx.length, fun v d rv nd => ?_⟩
      rw [List.cons_append, List.nodup_cons] at nd
      show OwL K G _ (_ :: _) (O.l (xs ++ [.v d]) :: _) ((p :: fx) ++ f2)
      refine .cons (.l upd_same ?_) (r.mono (fun _ _ h => h) fun z hz => upd_ne fun e => nd.1 (by rw [← e]; exact List.mem_append_right _ hz))
      have := (rx.mono (H' := upd H p (.lst (ws ++ [v]))) (fun _ _ h => h) fun z hz => upd_ne fun e => nd.1 (by rw [← e]; exact List.mem_append_left _ hz)).append (OwL.cons (Ow.v (H := upd H p (.lst (ws ++ [v]))) rv) .nil)
      simpa using this
  | _, _, _, c + 1, xs, .cons (fp := f1) (fq := f2) a r, h => by
    obtain ⟨p, ws, h1, h2, h3, h4, h5⟩ := OwL.appAt (c := c) (xs := xs) r (by simpa using h)
    refine ⟨p, ws, by simpa using h1, List.mem_append_right _ h2, h3, h4, fun v d rv nd => ?_⟩
    have nd' := List.nodup_append.mp nd
    exact .cons (a.mono (fun _ _ h => h) fun z hz => upd_ne fun e => nd'.2.2 z hz p h2 e) (h5 v d rv nd'.2.1)
def appAtK2 (ρ : Env2) (j c : Nat) (d : D) (os : List O) : Option O → M Out
  | some (.l xs) => M.guard (decide (xs.length < sizeLine)) (M.ret (.nx (ρ.set j (some (.tr (.l (os.set c (.l (xs ++ [.v d])))))))))
  | _ => M.fail
def appAtK (ρ : Env2) (j c : Nat) (d : D) : Option (Option Slot) → M Out
  | some (some (.tr (.l os))) => appAtK2 ρ j c d os os[c]?
  | _ => M.fail
def appAtM (j c : Nat) (ms : List Nat) (f : Env → M D) (ρ : Env2) : M Out := M.bind (f (view ms ρ)) fun d => appAtK (keepIf d.flat ms ρ) j c d (keepIf d.flat ms ρ)[j]?
section
variable {X : Cx} {pos : Pos}
theorem s_appAt (j c : Nat) (ms : List Nat) {x : Str} {e : Expr} {f : Env → M D} {p p2 p3 apos cpos : Pos} {kc : Nat} (he : DE X e f) (hN : X.N[j]? = some x := by rfl) (hv : Vis X.env.scope x := by first | exact Or.inl rfl | exact Or.inr (Or.inl rfl) | exact Or.inr (Or.inr rfl))
    (hd : (x == ("__debug__" : Str)) = false := by decide) (hcd : (x == ("__classdict__" : Str)) = false := by decide) (hst : starEach [e] X.env = (false, eval e X.env) :: starEach [] X.env := by rfl)
    (hbase : attributeBase (.Subscript (.Name x p) (.Constant (.int (c : Int)) kc p2) p3) "append" X.env (eval (.Subscript (.Name x p) (.Constant (.int (c : Int)) kc p2) p3) X.env) = eval (.Subscript (.Name x p) (.Constant (.int (c : Int)) kc p2) p3) X.env := by rfl)
    (hfew : ((backTo cpos (starEach [e] X.env)).all (fun x => !x.1) && (backToKw cpos (keywordEach [] X.env)).all (fun x => x.1.isSome) && decide (([e].length + ([] : List Keyword).length + if ([] : List Keyword).isEmpty = true then 0 else 1) < 30)) = true := by rfl)
    (hline : (apos.endLine == cpos.line) = true := by rfl) (hs : swapsWith (.Call (.Attribute (.Subscript (.Name x p) (.Constant (.int (c : Int)) kc p2) p3) "append" apos) [e] [] cpos) none pos.line X.env = pure false := by rfl) :
    DS X (.Expr (.Call (.Attribute (.Subscript (.Name x p) (.Constant (.int (c : Int)) kc p2) p3) "append" apos) [e] [] cpos) pos) (appAtM j c ms f) := by
  refine PSimp (ps_expr (pe_bm PySem.F.plainAttrs_list PySem.F.slot_list_append PySem.F.type_list_append mt_append (pe_ix ix_seq (pe_var hN hv hd hcd) pe_int (fun _ _ => rfl)) (pa_cons he pa_nil hst) hbase hfew hline hst) hs) ?_
  rintro D σ H ⟨E, ρ, G, b, o, b', I, e, q⟩
  obtain ⟨d, b1, e1, e3⟩ := M.bind_some e
  obtain ⟨os, ej⟩ : ∃ os, (keepIf d.flat ms ρ)[j]? = some (some (.tr (.l os))) := by
    cases ej : (keepIf d.flat ms ρ)[j]? with
    | none => rw [ej] at e3; cases e3
    | some s => cases s with
      | none => rw [ej] at e3; cases e3
      | some s => cases s with
        | val _ => rw [ej] at e3; cases e3
        | own _ => rw [ej] at e3; cases e3
        | tr o => cases o with
          | l os => exact ⟨os, rfl⟩
          | v _ => rw [ej] at e3; cases e3
          | k _ _ => rw [ej] at e3; cases e3
          | t _ _ => rw [ej] at e3; cases e3
  rw [ej] at e3
  have e3 : appAtK2 (keepIf d.flat ms ρ) j c d os os[c]? b1 = some (o, b') := e3
  obtain ⟨xs, ec⟩ : ∃ xs, os[c]? = some (.l xs) := by
    cases ec : os[c]? with
    | none => rw [ec] at e3; cases e3
    | some o => cases o with
      | l xs => exact ⟨xs, rfl⟩
      | v _ => rw [ec] at e3; cases e3
      | k _ _ => rw [ec] at e3; cases e3
      | t _ _ => rw [ec] at e3; cases e3
  rw [ec] at e3
  obtain ⟨hz, e4⟩ := M.guard_some e3
  cases e4
  obtain ⟨fp0, w0⟩ := I.own
  obtain ⟨u, hu1, ow0⟩ := w0.at_ j _ _ (keepIf_tr ej) rfl
  generalize hf0 : fp0 j = fj0 at ow0
  cases ow0 with
  | @l pa vs _ fpv hpa rl0 =>
    obtain ⟨pi, ws, g1, g2, g3, g4, _⟩ := rl0.appAt ec
    refine ⟨.ref pa, hu1, .inl ⟨pa, vs, c, .ref pi, rfl, rfl, SqL.of hpa, atI_nat g1, ?_⟩⟩
    refine ⟨Or.inl ⟨rfl, ws, SqL.of g3⟩, ?_⟩
    refine ⟨_, _, b, d, b', I.rs ms, I.gp2 ms, I.gpb ms, e1, fun v G1 H1 n1 r => ?_⟩
    obtain ⟨G2, I2, r2⟩ := I.after n1 r
    obtain ⟨fp, w⟩ := I2.own
    obtain ⟨u', hu2, ow⟩ := w.at_ j _ _ ej rfl
    rw [hu1] at hu2
    cases hu2
    generalize hf : fp j = fj at ow
    cases ow with
    | @l _ vs' _ fpv' hpa' rl =>
      have k0 := w0.ok j pa (by rw [hf0]; exact List.mem_cons_self)
      have hv' : vs' = vs := by
        have := n1.keep pa _ hpa k0.2.2.1
        rw [hpa'] at this
        cases this
        rfl
      subst hv'
      obtain ⟨pi', ws', k1, k2, k3, k4, k5⟩ := rl.appAt ec
      rw [g1] at k1
      cases k1
      have hnd := w.nd j
      rw [hf, List.nodup_cons] at hnd
      have hne : pi ≠ pa := fun z => hnd.1 (by rw [← z]; exact k2)
      refine ⟨pi, ws', v, rfl, rfl, k3, by rw [k4]; exact of_decide_eq_true hz, ?_⟩
      refine q σ G2 _ (I2.retree (s' := .tr (.l (os.set c (.l (xs ++ [.v d]))))) (fq := pa :: fpv') ej rfl hu1 w (.l (by rw [upd_ne (Ne.symm hne)]; exact hpa') (k5 v d r2 hnd.2)) (by rw [List.nodup_cons]; exact hnd) (fun a ha => ?_) (fun a hf' _ => upd_ne fun z => hf' (by rw [z, hf]; exact List.mem_cons_of_mem _ k2)))
      have hm : a ∈ fp j := by rw [hf]; exact ha
      refine .inl ⟨hm, ?_⟩
      by_cases z : a = pi
      · rw [z, upd_same]; exact fun z => nomatch z
      · rw [upd_ne z]; exact (w.ok j a hm).2.2.2
end
end DL
set_option Elab.async false
set_option maxRecDepth 100000
set_option autoImplicit false
set_option linter.unusedVariables false
set_option maxHeartbeats 4000000
namespace DL
open PySem L2
theorem OwL.three {K : PySem.W.Frag} {G H : Hp} {v1 v2 v3 : V} {o1 o2 o3 : O} {fq : List Addr} (r : OwL K G H [v1, v2, v3] [o1, o2, o3] fq) : ∃ f1 f2 f3, Ow K G H v1 o1 f1 ∧ Ow K G H v2 o2 f2 ∧ Ow K G H v3 o3 f3 ∧ fq = f1 ++ (f2 ++ f3) := by
  cases r with
  | @cons _ _ _ _ f1 f2 a b =>
    obtain ⟨g1, g2, h1, h2, e⟩ := b.two
    exact ⟨f1, g1, g2, a, h1, h2, by rw [e]⟩
section
variable {X : Cx} {pos : Pos}
def parO3K (i j l : Nat) (ms : List Nat) (ρ : Env2) : List O → M Out
  | [o1, o2, o3] => M.ret (.nx ((((keepIf (O.fls [o1, o2, o3]) ms ρ).set i (some (slotO o1))).set j (some (slotO o2))).set l (some (slotO o3))))
  | _ => M.fail
def parO3M (i j l : Nat) (ms : List Nat) (f : Env → M (List O)) (ρ : Env2) : M Out := M.bind (f (view ms ρ)) (parO3K i j l ms ρ)
theorem s_parO3 (i j l : Nat) (ms : List Nat) {x y z : Str} {a b c : Expr} {f : Env → M (List O)} {px py pz pt : Pos} {kt k2 pt2} (hc : X.calm = true) (hN : X.N.Nodup) (hi : X.N[i]? = some x) (hj : X.N[j]? = some y) (hl : X.N[l]? = some z) (hij : i ≠ j) (hil : i ≠ l) (hjl : j ≠ l)
    (hx : X.env.scope.names.lookup x = some .local) (hy : X.env.scope.names.lookup y = some .local) (hz : X.env.scope.names.lookup z = some .local) (ha : DOA X [a, b, c] f)
    (hw : swappedStores [.Tuple [.Name x px, .Name y py, .Name z pz] kt pt] (.Tuple [a, b, c] k2 pt2) X.env = pure (some [x, y, z]) := by rfl)
    (hs : swapsWithSole [.Tuple [.Name x px, .Name y py, .Name z pz] kt pt] (.Tuple [a, b, c] k2 pt2) pos.line X.env = pure false := by rfl) :
    DS X (.Assign [.Tuple [.Name x px, .Name y py, .Name z pz] kt pt] (.Tuple [a, b, c] k2 pt2) pos) (parO3M i j l ms f) := by
  refine PSimp (ps_par3 hc hN hi hj hl hij hil hjl hx hy hz ha hw hs) ?_
  rintro D σ H ⟨E, ρ, G, b, o, b', I, e, q⟩
  obtain ⟨os, b1, e1, e2⟩ := M.bind_some e
  refine ⟨_, _, b, os, b1, I.rs ms, I.gp2 ms, I.gpb ms, e1, fun vs fq G1 H1 n1 nw r => ?_⟩
  clear e
  match os, e2, r with
  | [o1, o2, o3], e2, .cons (v := v1) (fp := f1) r1 (.cons (v := v2) (fp := f2) r2 (.cons (v := v3) (fp := f3) r3 .nil)) =>
    cases e2
    refine ⟨_, _, _, rfl, ?_⟩
    obtain ⟨G2, I2, rr, ok, fp, w, fr⟩ := I.afterO n1 (OwL.cons r1 (.cons r2 (.cons r3 .nil))) nw
    obtain ⟨g1, g2, g3, h1, h2, h3, hq⟩ := rr.three
    rw [hq] at ok nw
    have nd := List.nodup_append.mp nw.2
    have nd2 := List.nodup_append.mp nd.2.1
    have m1 : ∀ a ∈ g1, a ∈ g1 ++ (g2 ++ g3) := fun a ha => List.mem_append_left _ ha
    have m2 : ∀ a ∈ g2, a ∈ g1 ++ (g2 ++ g3) := fun a ha => List.mem_append_right _ (List.mem_append_left _ ha)
    have m3 : ∀ a ∈ g3, a ∈ g1 ++ (g2 ++ g3) := fun a ha => List.mem_append_right _ (List.mem_append_right _ ha)
    obtain ⟨I3, fp3, w3, sub3⟩ := I2.setO i h1 nd.1 (fun a ha => ok a (m1 a ha)) w fun a ha j hf => fr j a hf (nw.1 a (m1 a ha)).1
    obtain ⟨I4, fp4, w4, sub4⟩ := I3.setO j h2 nd2.1 (fun a ha => ok a (m2 a ha)) w3 fun a ha k hf => by
      rcases sub3 k a hf with z | z
      · exact fr k a z (nw.1 a (m2 a ha)).1
      · exact nd.2.2 a z a (List.mem_append_left _ ha) rfl
    refine q _ G2 H1 (I4.setO l h3 nd2.2.1 (fun a ha => ok a (m3 a ha)) w4 fun a ha k hf => ?_).1
    rcases sub4 k a hf with z | z
    · rcases sub3 k a z with z | z
      · exact fr k a z (nw.1 a (m3 a ha)).1
      · exact nd.2.2 a z a (List.mem_append_right _ ha) rfl
    · exact nd2.2.2 a z a ha rfl
end
end DL
set_option Elab.async false
set_option maxRecDepth 100000
set_option autoImplicit false
set_option linter.unusedVariables false
set_option maxHeartbeats 4000000
namespace DL
open PySem L2
/-! ### more lemmas that evaluate -/
theorem ixD_l (x : List D) (i : Int) : ixD (.lst x) (.int i) = M.of (atI x i) := rfl
theorem ixD_t (x : List D) (i : Int) : ixD (.tup x) (.int i) = M.of (atI x i) := rfl
theorem bindRet {α : Type} (m : M α) : M.bind m (fun a => M.ret a) = m := M.bind_ret m
theorem ofSome {α : Type} (a : α) : M.of (some a) = M.ret a := rfl
theorem atI_0 {α : Type} (a : α) (l : List α) : atI (a :: l) 0 = some a := atI_nat (j := 0) rfl
theorem atI_1 {α : Type} (a b : α) (l : List α) : atI (a :: b :: l) 1 = some b := atI_nat (j := 1) rfl
theorem atI_2 {α : Type} (a b c : α) (l : List α) : atI (a :: b :: c :: l) 2 = some c := atI_nat (j := 2) rfl
theorem atI_3 {α : Type} (a b c d : α) (l : List α) : atI (a :: b :: c :: d :: l) 3 = some d := atI_nat (j := 3) rfl
theorem atI_4 {α : Type} (a b c d e : α) (l : List α) : atI (a :: b :: c :: d :: e :: l) 4 = some e := atI_nat (j := 4) rfl
theorem atI_ge {α : Type} {xs : List α} {i : Int} (d : α) (h0 : 0 ≤ i) (h1 : i < xs.length) : atI xs i = some (xs.getD i.toNat d) := by
  rw [atI_lt h0 h1]
  have hl : i.toNat < xs.length := by omega
  simp [List.getD, List.getElem?_eq_getElem hl]
theorem atI_neg {α : Type} {xs : List α} {i : Int} (d : α) (h0 : i < 0) (h1 : -(xs.length : Int) ≤ i) : atI xs i = some (xs.getD (i + xs.length).toNat d) := by
  have hl : (i + xs.length).toNat < xs.length := by omega
  unfold atI
  have e : ixN xs.length i = some (i + xs.length).toNat := by
    unfold ixN
    rw [if_neg (by omega), if_pos h1]
  rw [e]
  simp [List.getD, List.getElem?_eq_getElem hl]
theorem atI_neg1 {α : Type} {xs : List α} (d : α) (h : 0 < xs.length) : atI xs (-1) = some (xs.getD (xs.length - 1) d) := by
  rw [atI_neg d (by omega) (by omega)]
  congr 2
  omega
theorem atI_app {α : Type} (xs : List α) (v : α) : atI (xs ++ [v]) (-1) = some v := atI_last xs v
theorem ixD_strn {x : List Nat} {i : Int} (hz : x.length ≤ 16777216) (h0 : i < 0) (h1 : -(x.length : Int) ≤ i) : ixD (.str x) (.int i) = M.ret (.str [x.getD (i + x.length).toNat 0]) := by
  show M.guard (szS x.length) (M.of ((atI x i).map fun c => D.str [c])) = _
  rw [M.guard_of (show szS x.length = true from decide_eq_true hz), atI_neg 0 h0 h1]
  rfl
theorem ixD_str1 {x : List Nat} (hz : x.length ≤ 16777216) (h : 0 < x.length) : ixD (.str x) (.int (-1)) = M.ret (.str [x.getD (x.length - 1) 0]) := by
  rw [ixD_strn hz (by omega) (by omega)]
  congr 4
  omega
/-- an item, counted from either end -/
theorem ixD_strm {x : List Nat} {i : Int} (hz : x.length ≤ 16777216) (h0 : -(x.length : Int) ≤ i) (h1 : i < x.length) : ixD (.str x) (.int i) = M.ret (.str [x.getD (i % x.length).toNat 0]) := by
  by_cases h : 0 ≤ i
  · rw [ixD_str hz h h1, Int.emod_eq_of_lt h h1]
  · rw [ixD_strn hz (by omega) h0]
    have e : i % (x.length : Int) = i + x.length := by
      rw [← Int.add_emod_right, Int.emod_eq_of_lt (by omega) (by omega)]
    rw [e]
theorem intF_str {x : List Nat} (h : NumText.AllDigits x) (h1 : x ≠ []) (h2 : x.length ≤ 640) : intF [.str x] = M.ret (.int (NumText.digitsVal x : Nat)) := by
  show (match PySem.intText? ⟨x.toArray⟩ with
    | some n => M.guard (decide (x.length ≤ 640)) (M.ret (D.int n))
    | none => M.fail) = _
  rw [PySem.intText_digits (x := ⟨x.toArray⟩) (by simpa using h) (by simpa using h1) (by rw [szStr]; omega)]
  exact M.guard_of (decide_eq_true h2)
theorem intF_dig {c : Nat} (h0 : 48 ≤ c) (h1 : c ≤ 51) : intF [.str [c]] = M.ret (.int ((c : Int) - 48)) := by
  rw [intF_str (fun d hd => by simp at hd; subst hd; omega) (by simp) (by simp)]
  simp [NumText.digitsVal]
  congr 2
  omega
theorem mulD_intl {i j : Int} (h1 : -18446744073709551616 < i) (h2 : i < 18446744073709551616) : mulD (.int i) (.int j) = M.ret (.int (i * j)) := mulD_int (okM_l h1 h2)
theorem mulD_intr {i j : Int} (h1 : -18446744073709551616 < j) (h2 : j < 18446744073709551616) : mulD (.int i) (.int j) = M.ret (.int (i * j)) := mulD_int (okM_r h1 h2)
theorem rd_19 (o : Option D) (r : Env) : rdEnv 19 (o :: r) = rdEnv 18 r := rfl
theorem rd_20 (o : Option D) (r : Env) : rdEnv 20 (o :: r) = rdEnv 19 r := rfl
theorem rd_21 (o : Option D) (r : Env) : rdEnv 21 (o :: r) = rdEnv 20 r := rfl
theorem rd_22 (o : Option D) (r : Env) : rdEnv 22 (o :: r) = rdEnv 21 r := rfl
theorem rd_23 (o : Option D) (r : Env) : rdEnv 23 (o :: r) = rdEnv 22 r := rfl
theorem rd_24 (o : Option D) (r : Env) : rdEnv 24 (o :: r) = rdEnv 23 r := rfl
theorem rd_25 (o : Option D) (r : Env) : rdEnv 25 (o :: r) = rdEnv 24 r := rfl
theorem rd_26 (o : Option D) (r : Env) : rdEnv 26 (o :: r) = rdEnv 25 r := rfl
theorem rd_27 (o : Option D) (r : Env) : rdEnv 27 (o :: r) = rdEnv 26 r := rfl
theorem rd_28 (o : Option D) (r : Env) : rdEnv 28 (o :: r) = rdEnv 27 r := rfl
theorem rd_29 (o : Option D) (r : Env) : rdEnv 29 (o :: r) = rdEnv 28 r := rfl
theorem rd_30 (o : Option D) (r : Env) : rdEnv 30 (o :: r) = rdEnv 29 r := rfl
theorem rd_31 (o : Option D) (r : Env) : rdEnv 31 (o :: r) = rdEnv 30 r := rfl
theorem rd_32 (o : Option D) (r : Env) : rdEnv 32 (o :: r) = rdEnv 31 r := rfl
theorem rd_33 (o : Option D) (r : Env) : rdEnv 33 (o :: r) = rdEnv 32 r := rfl
theorem rd_34 (o : Option D) (r : Env) : rdEnv 34 (o :: r) = rdEnv 33 r := rfl
theorem rd_35 (o : Option D) (r : Env) : rdEnv 35 (o :: r) = rdEnv 34 r := rfl
theorem rd_36 (o : Option D) (r : Env) : rdEnv 36 (o :: r) = rdEnv 35 r := rfl
theorem rd_37 (o : Option D) (r : Env) : rdEnv 37 (o :: r) = rdEnv 36 r := rfl
theorem rd_38 (o : Option D) (r : Env) : rdEnv 38 (o :: r) = rdEnv 37 r := rfl
theorem rd_39 (o : Option D) (r : Env) : rdEnv 39 (o :: r) = rdEnv 38 r := rfl
theorem rd_40 (o : Option D) (r : Env) : rdEnv 40 (o :: r) = rdEnv 39 r := rfl
theorem rd_41 (o : Option D) (r : Env) : rdEnv 41 (o :: r) = rdEnv 40 r := rfl
theorem rd_42 (o : Option D) (r : Env) : rdEnv 42 (o :: r) = rdEnv 41 r := rfl
theorem rd_43 (o : Option D) (r : Env) : rdEnv 43 (o :: r) = rdEnv 42 r := rfl
theorem rd_44 (o : Option D) (r : Env) : rdEnv 44 (o :: r) = rdEnv 43 r := rfl
theorem rd_45 (o : Option D) (r : Env) : rdEnv 45 (o :: r) = rdEnv 44 r := rfl
theorem rd_46 (o : Option D) (r : Env) : rdEnv 46 (o :: r) = rdEnv 45 r := rfl
theorem rd_47 (o : Option D) (r : Env) : rdEnv 47 (o :: r) = rdEnv 46 r := rfl
theorem rd_48 (o : Option D) (r : Env) : rdEnv 48 (o :: r) = rdEnv 47 r := rfl
theorem rd_49 (o : Option D) (r : Env) : rdEnv 49 (o :: r) = rdEnv 48 r := rfl
theorem rd_50 (o : Option D) (r : Env) : rdEnv 50 (o :: r) = rdEnv 49 r := rfl
theorem rd_51 (o : Option D) (r : Env) : rdEnv 51 (o :: r) = rdEnv 50 r := rfl
theorem rd_52 (o : Option D) (r : Env) : rdEnv 52 (o :: r) = rdEnv 51 r := rfl
theorem rd_53 (o : Option D) (r : Env) : rdEnv 53 (o :: r) = rdEnv 52 r := rfl
theorem rd_54 (o : Option D) (r : Env) : rdEnv 54 (o :: r) = rdEnv 53 r := rfl
theorem rd_55 (o : Option D) (r : Env) : rdEnv 55 (o :: r) = rdEnv 54 r := rfl
theorem rd_56 (o : Option D) (r : Env) : rdEnv 56 (o :: r) = rdEnv 55 r := rfl
theorem rd_57 (o : Option D) (r : Env) : rdEnv 57 (o :: r) = rdEnv 56 r := rfl
theorem rd_58 (o : Option D) (r : Env) : rdEnv 58 (o :: r) = rdEnv 57 r := rfl
theorem rd_59 (o : Option D) (r : Env) : rdEnv 59 (o :: r) = rdEnv 58 r := rfl
theorem rd_60 (o : Option D) (r : Env) : rdEnv 60 (o :: r) = rdEnv 59 r := rfl
theorem okRep_of {x : Nat} {k : Int} (h0 : -4611686018427387904 ≤ k) (h1 : k < 4611686018427387904) (h : x * k.toNat ≤ 16777216) : okRep x k = true := by
  unfold okRep
  rw [Bool.and_eq_true, Bool.and_eq_true]
  exact ⟨⟨decide_eq_true (by omega), decide_eq_true (by omega)⟩, decide_eq_true h⟩
theorem slotD_obj (c i : Nat) (fs : List D) : slotD c i (.obj c fs) = M.of fs[i]? := by
  show M.guard (c == c) _ = _
  rw [show (c == c) = true by simp]
  rfl
theorem propD_obj (c : Nat) (F : List D → M D) (fs : List D) : propD c F (.obj c fs) = F [.obj c fs] := by
  unfold propD isC
  simp
theorem propN_obj (c : Nat) (F : List D → M (List D)) (fs : List D) : propN c F (.obj c fs) = F [.obj c fs] := by
  unfold propN isC
  simp
theorem isC_obj {α : Type} (c : Nat) (fs : List D) (m : M α) : M.guard (isC c (.obj c fs)) m = m := by
  unfold isC
  simp
theorem get0 {α : Type} (a : α) (l : List α) : (a :: l)[0]? = some a := rfl
theorem getS {α : Type} (a : α) (l : List α) (i : Nat) : (a :: l)[i + 1]? = l[i]? := rfl
theorem get1 {α : Type} (a : α) (l : List α) : (a :: l)[1]? = l[0]? := rfl
theorem get2 {α : Type} (a : α) (l : List α) : (a :: l)[2]? = l[1]? := rfl
theorem get3 {α : Type} (a : α) (l : List α) : (a :: l)[3]? = l[2]? := rfl
theorem bName_eq (i : Nat) (d : D) : bName i d = some [(i, d)] := rfl
theorem bTup_eq (n : Nat) (f : List D → Option (List (Nat × D))) (ds : List D) : bTup n f (.tup ds) = if ds.length = n then f ds else none := rfl
theorem bCons_eq (f : D → Option (List (Nat × D))) (g : List D → Option (List (Nat × D))) (d : D) (r : List D) : bCons f g (d :: r) = match f d, g r with
    | some l, some l' => some (l ++ l')
    | _, _ => none := rfl
theorem bNil_eq : bNil [] = some [] := rfl
theorem binF_eq {a c : Nat} (h1 : a = 48 ∨ a = 49) (h2 : c = 48 ∨ c = 49) : binF [.str [a, c], .int 2] = M.ret (.int (((a - 48) * 2 + (c - 48) : Nat) : Int)) := by
  rcases h1 with rfl | rfl <;> rcases h2 with rfl | rfl <;> rfl
theorem str01 (b : Bool) : strF [.int (if b = true then 1 else 0)] = M.ret (.str [if b = true then 49 else 48]) := by
  cases b
  · show M.guard _ _ = _
    rw [M.guard_of (by decide +kernel)]
    rfl
  · show M.guard _ _ = _
    rw [M.guard_of (by decide +kernel)]
    rfl
theorem isi_str_str (x : List Nat) : isiD "str" (.str x) = M.ret (.bl true) := rfl
theorem isi_int_int (x : Int) : isiD "int" (.int x) = M.ret (.bl true) := rfl
theorem isi_bool_int (x : Int) : isiD "bool" (.int x) = M.ret (.bl false) := rfl
theorem blsD_map {α : Type} (f : α → Bool) : ∀ xs : List α, blsD (xs.map fun a => D.bl (f a)) = some (xs.map f)
  | [] => rfl
  | a :: r => by
    show (blsD (r.map fun a => D.bl (f a))).map (f a :: ·) = _
    rw [blsD_map f r]; rfl
theorem joinF_two (a b : Nat) : joinF (.str []) (.lst [.str [a], .str [b]]) = M.ret (.str [a, b]) := by
  have := joinF_map (xs := [[a], [b]]) (by simp)
  simpa using this
/-! ### loops without draws -/
theorem loop_inv {bs : D → Option (List (Nat × D))} {body : Env2 → M Out} : ∀ {xs : List D} {I : Nat → Env2 → Prop} {ρ : Env2}, (∀ i x ρ, xs[i]? = some x → I i ρ → ∃ l ρ', bs x = some l ∧ (body (setAll2 ρ l) = M.ret (.nx ρ') ∨ body (setAll2 ρ l) = M.ret (.ct ρ')) ∧ I (i + 1) ρ') → I 0 ρ → ∃ ρ', loopM bs body xs ρ = M.ret (.nx ρ') ∧ I xs.length ρ'
  | [], I, ρ, _, h0 => ⟨ρ, rfl, h0⟩
  | x :: xs, I, ρ, h, h0 => by
    obtain ⟨l, ρ', e1, e2, h1⟩ := h 0 x ρ rfl h0
    obtain ⟨ρ2, e3, h2⟩ := loop_inv (xs := xs) (I := fun i => I (i + 1)) (ρ := ρ') (fun i y ρ hy hi => h (i + 1) y ρ (by simpa using hy) hi) h1
    refine ⟨ρ2, ?_, by simpa using h2⟩
    unfold loopM
    rw [e1]
    rcases e2 with e2 | e2 <;> (show M.bind _ _ = _; rw [e2, M.ret_bind]; exact e3)
/-- a loop over mapped things -/
theorem loop_invI {α : Type} {bs : D → Option (List (Nat × D))} {body : Env2 → M Out} {inj : α → D} {as : List α} {I : Nat → Env2 → Prop} {ρ : Env2} (h : ∀ i a ρ, as[i]? = some a → I i ρ → ∃ l ρ', bs (inj a) = some l ∧ (body (setAll2 ρ l) = M.ret (.nx ρ') ∨ body (setAll2 ρ l) = M.ret (.ct ρ')) ∧ I (i + 1) ρ') (h0 : I 0 ρ) : ∃ ρ', loopM bs body (as.map inj) ρ = M.ret (.nx ρ') ∧ I as.length ρ' := by
  have := loop_inv (xs := as.map inj) (I := I) (ρ := ρ) (bs := bs) (body := body) (fun i x ρ hx hi => by
    rw [List.getElem?_map] at hx
    cases e : as[i]? with
    | none => rw [e] at hx; cases hx
    | some a => rw [e] at hx; cases hx; exact h i a ρ e hi) h0
  simpa using this
theorem loop_bindI {α β : Type} {bs : D → Option (List (Nat × D))} {body : Env2 → M Out} {inj : α → D} {as : List α} (I : Nat → Env2 → Prop) {ρ : Env2} {κ : Out → M β} {R : M β} (h0 : I 0 ρ) (h : ∀ i a ρ, as[i]? = some a → I i ρ → ∃ l ρ', bs (inj a) = some l ∧ (body (setAll2 ρ l) = M.ret (.nx ρ') ∨ body (setAll2 ρ l) = M.ret (.ct ρ')) ∧ I (i + 1) ρ') (hk : ∀ ρ', I as.length ρ' → κ (.nx ρ') = R) : M.bind (loopM bs body (as.map inj) ρ) κ = R := by
  obtain ⟨ρ', e, h'⟩ := loop_invI h h0
  rw [e, M.ret_bind]
  exact hk ρ' h'
theorem loop_bind {β : Type} {bs : D → Option (List (Nat × D))} {body : Env2 → M Out} {as : List D} (I : Nat → Env2 → Prop) {ρ : Env2} {κ : Out → M β} {R : M β} (h0 : I 0 ρ) (h : ∀ i a ρ, as[i]? = some a → I i ρ → ∃ l ρ', bs a = some l ∧ (body (setAll2 ρ l) = M.ret (.nx ρ') ∨ body (setAll2 ρ l) = M.ret (.ct ρ')) ∧ I (i + 1) ρ') (hk : ∀ ρ', I as.length ρ' → κ (.nx ρ') = R) : M.bind (loopM bs body as ρ) κ = R := by
  obtain ⟨ρ', e, h'⟩ := loop_inv h h0
  rw [e, M.ret_bind]
  exact hk ρ' h'
theorem range_at {n i k : Nat} (h : (List.range n)[i]? = some k) : i < n ∧ k = i := by
  obtain ⟨h2, h3⟩ := List.getElem?_eq_some_iff.mp h
  simp at h2 h3
  exact ⟨h2, h3.symm⟩
theorem tot_loopI {p : Addr} {bs : D → Option (List (Nat × D))} {body : Env2 → M Out} : ∀ {xs : List D} {I : Nat → Env2 → Prop} {ρ : Env2}, (∀ i x ρ, xs[i]? = some x → I i ρ → ∃ l, bs x = some l ∧ Tot p (body (setAll2 ρ l)) (NxP (I (i + 1)))) → I 0 ρ → Tot p (loopM bs body xs ρ) (NxP (I xs.length))
  | [], I, ρ, _, hi => Tot.ret ⟨ρ, rfl, hi⟩
  | x :: xs, I, ρ, h, hi => by
    obtain ⟨l, h1, h2⟩ := h 0 x ρ rfl hi
    unfold loopM
    rw [h1]
    refine h2.bind fun o ho => ?_
    obtain ⟨ρ', rfl, hi'⟩ := ho
    exact tot_loopI (xs := xs) (I := fun i => I (i + 1)) (fun i y ρ hy hi => h (i + 1) y ρ (by simpa using hy) hi) hi'
theorem loopM_nil (bs : D → Option (List (Nat × D))) (body : Env2 → M Out) (ρ : Env2) : loopM bs body [] ρ = M.ret (.nx ρ) := rfl
theorem loopM_cons (bs : D → Option (List (Nat × D))) (body : Env2 → M Out) (x : D) (xs : List D) (ρ : Env2) : loopM bs body (x :: xs) ρ = match bs x with
    | none => M.fail
    | some l => M.bind (body (setAll2 ρ l)) fun o => match o with
      | .nx ρ' => loopM bs body xs ρ'
      | .ct ρ' => loopM bs body xs ρ'
      | .bk ρ' => M.ret (.nx ρ')
      | .rt d => M.ret (.rt d)
      | .rn ys => M.ret (.rn ys) := rfl
theorem setAll2_cons (ρ : Env2) (i : Nat) (d : D) (r : List (Nat × D)) : setAll2 ρ ((i, d) :: r) = setAll2 (ρ.set i (some (.val d))) r := rfl
theorem setAll2_nil (ρ : Env2) : setAll2 ρ [] = ρ := rfl
theorem setAllD_cons (ρ : Env) (i : Nat) (d : D) (r : List (Nat × D)) : setAllD ρ ((i, d) :: r) = setAllD (ρ.set i (some d)) r := rfl
theorem setAllD_nil (ρ : Env) : setAllD ρ [] = ρ := rfl
theorem wipeD_cons (ρ : Env) (v : Nat) (vs : List Nat) : wipeD ρ (v :: vs) = (wipeD ρ vs).set v none := rfl
theorem wipeD_nil (ρ : Env) : wipeD ρ [] = ρ := rfl
/-! ### statements by steps -/
theorem tot_setE {p : Addr} {i : Nat} {ms : List Nat} {f : Env → M D} {F2 : Env2 → M Out} {ρ : Env2} {d : D} {Q : Out → Prop} (h : f (view ms ρ) = M.ret d) (h2 : Tot p (F2 ((keepIf d.flat ms ρ).set i (some (.val d)))) Q) : Tot p (seqM (setM i ms f) F2 ρ) Q :=
  tot_set (P := (· = d)) (Tot.of_ret h rfl) fun _ e => by subst e; exact h2
theorem tot_setNE {p : Addr} {i : Nat} {ms : List Nat} {f : Env → M (List D)} {F2 : Env2 → M Out} {ρ : Env2} {d : List D} {Q : Out → Prop} (h : f (view ms ρ) = M.ret d) (h2 : Tot p (F2 ((keepIf (d.all D.flat) ms ρ).set i (some (.own d)))) Q) : Tot p (seqM (setNM i ms f) F2 ρ) Q :=
  tot_setN (P := (· = d)) (Tot.of_ret h rfl) fun _ e => by subst e; exact h2
theorem tot_unpE {p : Addr} {bs : D → Option (List (Nat × D))} {ms : List Nat} {f : Env → M D} {F2 : Env2 → M Out} {ρ : Env2} {d : D} {l : List (Nat × D)} {Q : Out → Prop} (h : f (view ms ρ) = M.ret d) (hb : bs d = some l) (h2 : Tot p (F2 (setAll2 (keepIf d.flat ms ρ) l)) Q) : Tot p (seqM (unpM bs ms f) F2 ρ) Q :=
  tot_unp (P := (· = d)) (Tot.of_ret h rfl) fun _ e => by subst e; exact ⟨l, hb, h2⟩
theorem tot_par {p : Addr} {i j : Nat} {ms : List Nat} {f : Env → M (List D)} {F2 : Env2 → M Out} {ρ : Env2} {P : D → D → Prop} {Q : Out → Prop} (h : Tot p (f (view ms ρ)) fun ds => ∃ d e, ds = [d, e] ∧ P d e) (h2 : ∀ d e, P d e → Tot p (F2 (((keepIf (d.flat && e.flat) ms ρ).set i (some (.val d))).set j (some (.val e)))) Q) : Tot p (seqM (parM i j ms f) F2 ρ) Q := by
  show Tot p (M.bind (M.bind _ _) _) _
  rw [M.bind_assoc]
  refine h.bind fun ds hd => ?_
  obtain ⟨d, e, rfl, hp⟩ := hd
  exact h2 d e hp
theorem tot_ifE {p : Addr} {ms : List Nat} {t : Env → M Bool} {F1 F0 F2 : Env2 → M Out} {ρ : Env2} {Q : Out → Prop} {k : Bool} (h : t (view ms ρ) = M.ret k) (h2 : Tot p (seqM (if k = true then F1 else F0) F2 ρ) Q) : Tot p (seqM (ifM ms t F1 F0) F2 ρ) Q := by
  show Tot p (M.bind (M.bind _ _) _) _
  rw [M.bind_assoc, h, M.ret_bind]
  cases k with
  | true => exact h2
  | false => exact h2
theorem tot_ifNE {p : Addr} {ms : List Nat} {t : Env → M Bool} {F1 F0 F2 : Env2 → M Out} {ρ : Env2} {Q : Out → Prop} (h : t (view ms ρ) = M.ret false) (h2 : Tot p (seqM F0 F2 ρ) Q) : Tot p (seqM (ifM ms t F1 F0) F2 ρ) Q := tot_ifE h h2
theorem tot_ifLE {p : Addr} {ms : List Nat} {t : Env → M Bool} {F1 F0 : Env2 → M Out} {ρ : Env2} {Q : Out → Prop} (h : t (view ms ρ) = M.ret false) (h2 : Tot p (F0 ρ) Q) : Tot p (ifM ms t F1 F0 ρ) Q := tot_ifL (Tot.of_ret h rfl) h2
theorem tot_forE {p : Addr} {ms : List Nat} {gi : Env → M (List D)} {bs : D → Option (List (Nat × D))} {body : Env2 → M Out} {ρ : Env2} {I : Env2 → Prop} {xs : List D} (hx : gi (view ms ρ) = M.ret xs) (h : ∀ x ∈ xs, ∀ ρ, I ρ → ∃ l, bs x = some l ∧ Tot p (body (setAll2 ρ l)) (NxP I)) (hi : I (frz ms ρ)) : Tot p (forA ms gi bs body ρ) (NxP I) :=
  tot_for (P := (· = xs)) (Tot.of_ret hx rfl) (fun _ e => by subst e; exact h) hi
theorem tot_forEI {p : Addr} {ms : List Nat} {gi : Env → M (List D)} {bs : D → Option (List (Nat × D))} {body : Env2 → M Out} {ρ : Env2} {I : Nat → Env2 → Prop} {xs : List D} (hx : gi (view ms ρ) = M.ret xs) (h : ∀ i x ρ, xs[i]? = some x → I i ρ → ∃ l, bs x = some l ∧ Tot p (body (setAll2 ρ l)) (NxP (I (i + 1)))) (hi : I 0 (frz ms ρ)) : Tot p (forA ms gi bs body ρ) (NxP (I xs.length)) := by
  show Tot p (M.bind _ _) _
  rw [hx]
  exact tot_loopI h hi
theorem tot_forREI {p : Addr} {ms : List Nat} {gi : Env → M (List D)} {bs : D → Option (List (Nat × D))} {body : Env2 → M Out} {ρ : Env2} {I : Nat → Env2 → Prop} {xs : List D} (hx : gi (view ms ρ) = M.ret xs) (h : ∀ i x ρ, xs[i]? = some x → I i ρ → ∃ l, bs x = some l ∧ Tot p (body (setAll2 ρ l)) (NxP (I (i + 1)))) (hi : I 0 ρ) : Tot p (forRM ms gi bs body ρ) (NxP (I xs.length)) := by
  show Tot p (M.bind _ _) _
  rw [hx]
  exact tot_loopI h hi
end DL
set_option Elab.async false
set_option maxRecDepth 100000
set_option autoImplicit false
set_option linter.unusedVariables false
set_option maxHeartbeats 4000000
namespace DL
open PySem L2
/-! ### evaluation by need: what follows is not looked into -/
def Tg {α : Type} (_ : α) : Type := PUnit
def Tg.mk {α : Type} (a : α) : Tg a := PUnit.unit
def bnd {α β : Type} (m : M α) (f : α → M β) (_ : Tg f := Tg.mk f) : M β := M.bind m f
def cnd {α : Type} (k : Bool) (a b : M α) (_ : Tg (a, b) := Tg.mk (a, b)) : M α := if k = true then a else b
section
variable {α β γ : Type}
theorem bnd_ret (a : α) (f : α → M β) (t : Tg f) : bnd (M.ret a) f t = f a := rfl
theorem bdR (a : α) (f : α → M β) (t : Tg f) : bnd (M.ret a) f t = f a := rfl
theorem bnd_assoc (m : M α) (f : α → M β) (g : β → M γ) (t : Tg f) (u : Tg g) : bnd (bnd m f t) g u = bnd m fun a => bnd (f a) g := M.bind_assoc m f g
theorem bnd_assoc' (m : M α) (f : α → M β) (g : β → M γ) (u : Tg g) : bnd (M.bind m f) g u = bnd m fun a => bnd (f a) g := M.bind_assoc m f g
theorem bnd_r (m : M α) (t : Tg (fun a => M.ret a)) : bnd m (fun a => M.ret a) t = m := M.bind_ret m
theorem cnd_dt {p : Prop} [Decidable p] (h : p) (a b : M α) (t : Tg (a, b)) : cnd (decide p) a b t = a := by
  unfold cnd
  rw [if_pos (decide_eq_true h)]
theorem cnd_df {p : Prop} [Decidable p] (h : ¬ p) (a b : M α) (t : Tg (a, b)) : cnd (decide p) a b t = b := by
  unfold cnd
  rw [if_neg (by simp [h])]
theorem cnd_t (a b : M α) (t : Tg (a, b)) : cnd true a b t = a := rfl
theorem cnd_f (a b : M α) (t : Tg (a, b)) : cnd false a b t = b := rfl
theorem cnd_bnd (k : Bool) (a b : M α) (t : Tg (a, b)) (f : α → M β) (u : Tg f) : bnd (cnd k a b t) f u = cnd k (bnd a f) (bnd b f) := by cases k <;> rfl
theorem bind_bnd (m : M α) (f : α → M β) : M.bind m f = bnd m f := rfl
theorem fail_bnd (f : α → M β) (t : Tg f) : bnd M.fail f t = M.fail := rfl
end
def seqK (F2 : Env2 → M Out) : Out → M Out
  | .nx ρ1 => F2 ρ1
  | o => M.ret o
def runK : Out → M D
  | .rt d => M.ret d
  | .rn xs => M.ret (.lst xs)
  | .nx _ => M.ret .non
  | _ => M.fail
def runKN : Out → M (List D)
  | .rn xs => M.ret xs
  | _ => M.fail
def lstK (xs : List D) : M (List D) := M.guard (szL xs) (M.ret xs)
def tupK (xs : List D) : M D := M.guard (szL xs) (M.ret (.tup xs))
def loopK (bs : D → Option (List (Nat × D))) (body : Env2 → M Out) (xs : List D) : Out → M Out
  | .nx ρ' => loopM bs body xs ρ'
  | .ct ρ' => loopM bs body xs ρ'
  | .bk ρ' => M.ret (.nx ρ')
  | .rt d => M.ret (.rt d)
  | .rn ys => M.ret (.rn ys)
def appK (ρ : Env2) (j : Nat) (d : D) : Option (Option Slot) → M Out
  | some (some (.own xs)) => M.guard (decide (xs.length < sizeLine)) (M.ret (.nx (ρ.set j (some (.own (xs ++ [d]))))))
  | _ => M.fail
def parK (i j : Nat) (ms : List Nat) (ρ : Env2) : List D → M Out
  | [d, e] => M.ret (.nx (((keepIf (d.flat && e.flat) ms ρ).set i (some (.val d))).set j (some (.val e))))
  | _ => M.fail
def unpK (ρ : Env2) : Option (List (Nat × D)) → M Out
  | some l => M.ret (.nx (setAll2 ρ l))
  | none => M.fail
def augK (f : D → D → M D) (i : Nat) (g : M D) (ρ : Env2) : Option (Option Slot) → M Out
  | some (some (.val x)) => bnd g fun y => bnd (f x y) fun z => M.guard (y.flat && z.flat) (M.ret (.nx (ρ.set i (some (.val z)))))
  | _ => M.fail
def selK (F2 : Env2 → M (List D)) (ρ : Env2) : Out → M (List D)
  | .nx ρ1 => M.guard (decide (selfOf ρ1 = selfOf ρ)) (F2 ρ1)
  | _ => M.fail
section
variable (ρ : Env) (ρ2 : Env2) (ms : List Nat)
theorem q_seq (F1 F2 : Env2 → M Out) : seqM F1 F2 ρ2 = bnd (F1 ρ2) (seqK F2) := by
  rfl
theorem q_seqK_nx (F2 : Env2 → M Out) (ρ1 : Env2) : seqK F2 (.nx ρ1) = F2 ρ1 := rfl
theorem q_seqK_rt (F2 : Env2 → M Out) (d : D) : seqK F2 (.rt d) = M.ret (.rt d) := rfl
theorem q_seqK_rn (F2 : Env2 → M Out) (d : List D) : seqK F2 (.rn d) = M.ret (.rn d) := rfl
theorem q_seqK_bk (F2 : Env2 → M Out) (d : Env2) : seqK F2 (.bk d) = M.ret (.bk d) := rfl
theorem q_seqK_ct (F2 : Env2 → M Out) (d : Env2) : seqK F2 (.ct d) = M.ret (.ct d) := rfl
theorem q_runD (m : Nat) (F : Env2 → M Out) (ds : List D) : runD m F ds = bnd (F (startD m ds)) runK := by
  rfl
theorem q_runN (m : Nat) (F : Env2 → M Out) (ds : List D) : runN m F ds = bnd (F (startD m ds)) runKN := by
  rfl
theorem q_runK_rt (d : D) : runK (.rt d) = M.ret d := rfl
theorem q_runK_rn (d : List D) : runK (.rn d) = M.ret (.lst d) := rfl
theorem q_runK_nx (d : Env2) : runK (.nx d) = M.ret .non := rfl
theorem q_runKN_rn (d : List D) : runKN (.rn d) = M.ret d := rfl
theorem q_set (i : Nat) (f : Env → M D) : setM i ms f ρ2 = bnd (f (view ms ρ2)) fun d => M.ret (.nx ((keepIf d.flat ms ρ2).set i (some (.val d)))) := rfl
theorem q_setN (i : Nat) (f : Env → M (List D)) : setNM i ms f ρ2 = bnd (f (view ms ρ2)) fun xs => M.ret (.nx ((keepIf (xs.all D.flat) ms ρ2).set i (some (.own xs)))) := rfl
theorem q_ret (f : Env → M D) : retM ms f ρ2 = bnd (f (view ms ρ2)) fun d => M.ret (.rt d) := rfl
theorem q_retN (f : Env → M (List D)) : retNM ms f ρ2 = bnd (f (view ms ρ2)) fun d => M.ret (.rn d) := rfl
theorem q_drop (f : Env → M D) : dropM ms f ρ2 = bnd (f (view ms ρ2)) fun _ => M.ret (.nx ρ2) := rfl
theorem q_if (t : Env → M Bool) (F F2 : Env2 → M Out) : ifM ms t F F2 ρ2 = bnd (t (view ms ρ2)) fun k => cnd k (F ρ2) (F2 ρ2) := rfl
theorem q_unp (bs : D → Option (List (Nat × D))) (f : Env → M D) : unpM bs ms f ρ2 = bnd (f (view ms ρ2)) fun d => unpK (keepIf d.flat ms ρ2) (bs d) := by
  show M.bind _ _ = M.bind _ _
  congr 1
theorem q_unpK (l : List (Nat × D)) : unpK ρ2 (some l) = M.ret (.nx (setAll2 ρ2 l)) := rfl
theorem q_par (i j : Nat) (f : Env → M (List D)) : parM i j ms f ρ2 = bnd (f (view ms ρ2)) (parK i j ms ρ2) := by
  show M.bind _ _ = M.bind _ _
  congr 1
theorem q_parK (i j : Nat) (d e : D) : parK i j ms ρ2 [d, e] = M.ret (.nx (((keepIf (d.flat && e.flat) ms ρ2).set i (some (.val d))).set j (some (.val e)))) := rfl
theorem q_app (j : Nat) (f : Env → M D) : appM j ms f ρ2 = bnd (f (view ms ρ2)) fun d => appK (keepIf d.flat ms ρ2) j d (keepIf d.flat ms ρ2)[j]? := by
  show M.bind _ _ = M.bind _ _
  congr 1
theorem q_appK {j : Nat} {d : D} {xs : List D} (h : xs.length < 16777216) : appK ρ2 j d (some (some (.own xs))) = M.ret (.nx (ρ2.set j (some (.own (xs ++ [d]))))) := M.guard_of (decide_eq_true h)
theorem q_aug (f : D → D → M D) (i : Nat) (g : Env → M D) : augD f i ms g ρ2 = augK f i (g (view ms ρ2)) ρ2 ρ2[i]? := by
  show (match ρ2[i]? with | some (some (.val x)) => _ | _ => _) = _
  cases ρ2[i]? with
  | none => rfl
  | some o => cases o with
    | none => rfl
    | some s => cases s <;> rfl
theorem q_augK (f : D → D → M D) (i : Nat) (g : M D) (x : D) : augK f i g ρ2 (some (some (.val x))) = bnd g fun y => bnd (f x y) fun z => M.guard (y.flat && z.flat) (M.ret (.nx (ρ2.set i (some (.val z))))) := rfl
theorem q_addF_int (i j : Int) : addF (.int i) (.int j) = M.ret (.int (i + j)) := rfl
theorem q_addF_str {x y : List Nat} (h : x.length + y.length ≤ 16777216) : addF (.str x) (.str y) = M.ret (.str (x ++ y)) := M.guard_of (decide_eq_true h)
theorem q_guard {α : Type} (m : M α) : M.guard true m = m := rfl
theorem q_for (gi : Env → M (List D)) (bs : D → Option (List (Nat × D))) (body : Env2 → M Out) : forA ms gi bs body ρ2 = bnd (gi (view ms ρ2)) fun xs => loopM bs body xs (frz ms ρ2) := rfl
theorem q_forR (gi : Env → M (List D)) (bs : D → Option (List (Nat × D))) (body : Env2 → M Out) : forRM ms gi bs body ρ2 = bnd (gi (view ms ρ2)) fun xs => loopM bs body xs ρ2 := rfl
theorem q_loop0 (bs : D → Option (List (Nat × D))) (body : Env2 → M Out) : loopM bs body [] ρ2 = M.ret (.nx ρ2) := rfl
theorem q_loop1 {bs : D → Option (List (Nat × D))} {body : Env2 → M Out} {x : D} {xs : List D} {l : List (Nat × D)} (h : bs x = some l) : loopM bs body (x :: xs) ρ2 = bnd (body (setAll2 ρ2 l)) (loopK bs body xs) := by
  show (match bs x with | none => _ | some l => _) = _
  rw [h]
  rfl
theorem q_loopN (i : Nat) (body : Env2 → M Out) (x : D) (xs : List D) : loopM (bName i) body (x :: xs) ρ2 = bnd (body (ρ2.set i (some (.val x)))) (loopK (bName i) body xs) := q_loop1 (l := [(i, x)]) ρ2 rfl
theorem q_loopK_nx (bs : D → Option (List (Nat × D))) (body : Env2 → M Out) (xs : List D) : loopK bs body xs (.nx ρ2) = loopM bs body xs ρ2 := rfl
theorem q_loopK_ct (bs : D → Option (List (Nat × D))) (body : Env2 → M Out) (xs : List D) : loopK bs body xs (.ct ρ2) = loopM bs body xs ρ2 := rfl
theorem q_loopK_bk (bs : D → Option (List (Nat × D))) (body : Env2 → M Out) (xs : List D) : loopK bs body xs (.bk ρ2) = M.ret (.nx ρ2) := rfl
theorem q_loopK_rt (bs : D → Option (List (Nat × D))) (body : Env2 → M Out) (xs : List D) (d : D) : loopK bs body xs (.rt d) = M.ret (.rt d) := rfl
theorem q_loopK_rn (bs : D → Option (List (Nat × D))) (body : Env2 → M Out) (xs : List D) (d : List D) : loopK bs body xs (.rn d) = M.ret (.rn d) := rfl
theorem q_sNil : sNil ρ2 = M.ret (.nx ρ2) := rfl
theorem q_e2 (h : D → D → M D) (f g : Env → M D) : e2 h f g ρ = bnd (f ρ) fun x => bnd (g ρ) fun y => h x y := rfl
theorem q_t2 (h : D → D → M D) (f g : Env → M D) : t2 h f g ρ = bnd (f ρ) fun x => bnd (g ρ) fun y => bnd (h x y) asB := rfl
theorem q_e1 (h : D → M D) (f : Env → M D) : e1 h f ρ = bnd (f ρ) h := rfl
theorem q_cst (d : D) : cst d ρ = M.ret d := rfl
theorem q_aN : aN ρ = M.ret [] := rfl
theorem q_aC (f : Env → M D) (g : Env → M (List D)) : aC f g ρ = bnd (f ρ) fun x => bnd (g ρ) fun xs => M.ret (x :: xs) := rfl
theorem q_call (h : List D → M D) (f : Env → M (List D)) : eCall h f ρ = bnd (f ρ) h := rfl
theorem q_callN (h : List D → M (List D)) (f : Env → M (List D)) : nCall h f ρ = bnd (f ρ) h := rfl
theorem q_eN (f : Env → M (List D)) : eN f ρ = bnd (f ρ) fun xs => M.ret (.lst xs) := rfl
theorem q_nLst (f : Env → M (List D)) : nLst f ρ = bnd (f ρ) lstK := rfl
theorem q_lstK {xs : List D} (h : xs.length ≤ 16777216) : lstK xs = M.ret xs := M.guard_of (decide_eq_true h)
theorem q_eTup (f : Env → M (List D)) : eTup f ρ = bnd (f ρ) tupK := rfl
theorem q_tupK {xs : List D} (h : xs.length ≤ 16777216) : tupK xs = M.ret (.tup xs) := M.guard_of (decide_eq_true h)
theorem q_tVal (f : Env → M D) : tVal f ρ = bnd (f ρ) truD := rfl
theorem q_tNot (f : Env → M Bool) : tNotM f ρ = bnd (f ρ) fun k => M.ret (!k) := rfl
theorem q_tAnd (f g : Env → M Bool) : tAndM f g ρ = bnd (f ρ) fun k => cnd k (g ρ) (M.ret false) := rfl
theorem q_tOr (f g : Env → M Bool) : tOrM f g ρ = bnd (f ρ) fun k => cnd k (M.ret true) (g ρ) := rfl
theorem q_eAnd (f g : Env → M D) : eAnd f g ρ = bnd (f ρ) fun x => bnd (asB x) fun k => cnd k (g ρ) (M.ret (.bl false)) := rfl
theorem q_eOr (f g : Env → M D) : eOr f g ρ = bnd (f ρ) fun x => bnd (asB x) fun k => cnd k (M.ret (.bl true)) (g ρ) := rfl
theorem q_eNot (f : Env → M D) : eNot f ρ = bnd (f ρ) fun x => bnd (asB x) fun k => M.ret (.bl (!k)) := rfl
theorem q_eIf (t : Env → M Bool) (f g : Env → M D) : eIf t f g ρ = bnd (t ρ) fun k => cnd k (f ρ) (g ρ) := rfl
theorem q_iAny (f : Env → M D) : iAny f ρ = bnd (f ρ) itemsD := rfl
theorem q_iRg1 (f : Env → M (List D)) : iRg1 f ρ = bnd (f ρ) rng1 := rfl
theorem q_iRg2 (f : Env → M (List D)) : iRg2 f ρ = bnd (f ρ) rng2 := rfl
theorem q_iEnum (f : Env → M (List D)) : iEnumM f ρ = bnd (f ρ) enumD := rfl
theorem q_nLc (vs : List Nat) (gi : Env → M (List D)) (bs : D → Option (List (Nat × D))) (c : Env → M Bool) (e : Env → M D) : nLc vs gi bs c e ρ = bnd (gi ρ) fun xs => bnd (compM bs c e (wipeD ρ vs) xs) lstK := rfl
theorem q_cT : cT ρ = M.ret true := rfl
theorem q_oN : oN ρ = M.ret none := rfl
theorem q_oS (f : Env → M D) : oS f ρ = bnd (f ρ) asI := rfl
theorem q_eSl (f : Env → M D) (fl fh : Env → M (Option Int)) : eSl f fl fh ρ = bnd (f ρ) fun x => bnd (fl ρ) fun l => bnd (fh ρ) fun h => slD l h x := rfl
theorem q_eChain (h h' : D → D → M D) (f g k : Env → M D) : eChain h h' f g k ρ = bnd (f ρ) fun x => bnd (g ρ) fun y => bnd (h x y) fun z => bnd (asB z) fun t => cnd t (bnd (k ρ) (h' y)) (M.ret (.bl false)) := rfl
theorem q_tBl (f : Env → M D) : tBl f ρ = bnd (f ρ) asB := rfl
theorem q_eMake (c : Nat) (F : List D → M (List D)) (fa : Env → M (List D)) : eMake c F fa ρ = bnd (fa ρ) fun ds => bnd (F ds) fun fs => M.ret (.obj c fs) := rfl
theorem q_eMeth (c : Nat) (F : List D → M D) (f : Env → M D) (fa : Env → M (List D)) : eMeth c F f fa ρ = bnd (f ρ) fun x => M.guard (isC c x) (bnd (fa ρ) fun ds => F (x :: ds)) := rfl
theorem q_nMeth (c : Nat) (F : List D → M (List D)) (f : Env → M D) (fa : Env → M (List D)) : nMeth c F f fa ρ = bnd (f ρ) fun x => M.guard (isC c x) (bnd (fa ρ) fun ds => F (x :: ds)) := rfl
theorem q_n1M (h : D → M (List D)) (f : Env → M D) : n1M h f ρ = bnd (f ρ) h := rfl
theorem q_iSeq (F1 : Env2 → M Out) (F2 : Env2 → M (List D)) : iSeq F1 F2 ρ2 = bnd (F1 ρ2) (selK F2 ρ2) := by
  rfl
theorem q_selK (F2 : Env2 → M (List D)) (ρ1 : Env2) : selK F2 ρ2 (.nx ρ1) = M.guard (decide (selfOf ρ1 = selfOf ρ2)) (F2 ρ1) := rfl
theorem q_self (x : Addr) (r : Env2) : selfOf (some (.val (.bag x)) :: r) = some x := rfl
theorem q_iTwo (f : Env → M D) : iTwo ms f ρ2 = bnd (f (view ms ρ2)) two2 := rfl
theorem q_iTwoS (f : Env → M D) : iTwoS ms f ρ2 = bnd (f (view ms ρ2)) two2s := rfl
theorem q_two2s (x y : D) : two2s (.tup [x, y]) = M.ret [y, x] := rfl
theorem q_two2 (x y : D) : two2 (.tup [x, y]) = M.ret [x, y] := rfl
theorem q_retOwn (i : Nat) : retOwn i ρ2 = match ρ2[i]? with | some (some (.own xs)) => M.ret (.rn xs) | some (some (.val d)) => M.ret (.rt d) | _ => M.fail := rfl
theorem q_retOwn_o {i : Nat} {xs : List D} {ρ2 : Env2} (h : ρ2[i]? = some (some (.own xs))) : retOwn i ρ2 = M.ret (.rn xs) := by unfold retOwn; rw [h]
theorem q_retOwn_v {i : Nat} {d : D} {ρ2 : Env2} (h : ρ2[i]? = some (some (.val d))) : retOwn i ρ2 = M.ret (.rt d) := by unfold retOwn; rw [h]
end
def extK (ρ : Env2) (j : Nat) (ds : List D) : Option (Option Slot) → M Out
  | some (some (.own xs)) => M.guard (decide (xs.length + ds.length ≤ sizeLine)) (M.ret (.nx (ρ.set j (some (.own (xs ++ ds))))))
  | _ => M.fail
theorem q_ext (ρ2 : Env2) (ms : List Nat) (j : Nat) (f : Env → M (List D)) : extM j ms f ρ2 = bnd (f (view ms ρ2)) fun ds => extK (keepIf (ds.all D.flat) ms ρ2) j ds (keepIf (ds.all D.flat) ms ρ2)[j]? := by
  show M.bind _ _ = M.bind _ _
  congr 1
theorem q_extK {ρ2 : Env2} {j : Nat} {ds xs : List D} (h : xs.length + ds.length ≤ 16777216) : extK ρ2 j ds (some (some (.own xs))) = M.ret (.nx (ρ2.set j (some (.own (xs ++ ds))))) := M.guard_of (decide_eq_true h)
theorem q_nLc2 (ρ : Env) (vs vs1 : List Nat) (gi : Env → M (List D)) (bs : D → Option (List (Nat × D))) (c : Env → M Bool) (gi1 : Env → M (List D)) (bs1 : D → Option (List (Nat × D))) (c1 : Env → M Bool) (e : Env → M D) : nLc2 vs vs1 gi bs c gi1 bs1 c1 e ρ = bnd (gi ρ) fun xs => bnd (compM2 bs c gi1 bs1 c1 e vs1 (wipeD ρ vs) xs) lstK := rfl
theorem q_count (x : List Nat) (c : Nat) : countD (.str x) (.str [c]) = M.ret (.int (x.count c)) := rfl
theorem q_inE (c : Nat) (z : List Nat) : inE false (.str [c]) (.str z) = M.ret (.bl (decide (c ∈ z))) := rfl
theorem q_notInE (c : Nat) (z : List Nat) : inE true (.str [c]) (.str z) = M.ret (.bl (!decide (c ∈ z))) := rfl
theorem q_is_non : isD false .non .non = M.ret (.bl true) := rfl
theorem q_is_str (x : List Nat) : isD false (.str x) .non = M.ret (.bl false) := rfl
theorem q_is_int (x : Int) : isD false (.int x) .non = M.ret (.bl false) := rfl
theorem q_is_tup (x : List D) : isD false (.tup x) .non = M.ret (.bl false) := rfl
theorem q_is_lst (x : List D) : isD false (.lst x) .non = M.ret (.bl false) := rfl
theorem q_isnt_non : isD true .non .non = M.ret (.bl false) := rfl
theorem q_isnt_str (x : List Nat) : isD true (.str x) .non = M.ret (.bl true) := rfl
theorem q_isnt_int (x : Int) : isD true (.int x) .non = M.ret (.bl true) := rfl
theorem q_isnt_tup (x : List D) : isD true (.tup x) .non = M.ret (.bl true) := rfl
theorem q_isnt_lst (x : List D) : isD true (.lst x) .non = M.ret (.bl true) := rfl
theorem q_list_l (x : List D) : listF [.lst x] = M.ret x := rfl
theorem q_list_t (x : List D) : listF [.tup x] = M.ret x := rfl
theorem q_tuple_l (x : List D) : tupleF [.lst x] = M.ret (.tup x) := rfl
theorem q_tuple_t (x : List D) : tupleF [.tup x] = M.ret (.tup x) := rfl
theorem q_max2 (i j : Int) : maxF [.int i, .int j] = M.ret (.int (maxZ i j)) := rfl
theorem q_min2 (i j : Int) : minF [.int i, .int j] = M.ret (.int (minZ i j)) := rfl
theorem q_sum (is : List Int) : sumF [.lst (is.map D.int)] = M.ret (.int is.sum) := by
  show (match intsD (is.map D.int) with | some is => M.ret (D.int is.sum) | none => M.fail) = _
  rw [intsD_map]
theorem compM2_map {α β : Type} {bs bs1 : D → Option (List (Nat × D))} {c c1 : Env → M Bool} {gi1 : Env → M (List D)} {e : Env → M D} {vs1 : List Nat} {ρ : Env} {inj : α → D} {l : α → List (Nat × D)} {inj1 : α → β → D} {l1 : α → β → List (Nat × D)} {ys : α → List β} {y : α → β → D} : ∀ {as : List α},
    (∀ a ∈ as, bs (inj a) = some (l a) ∧ c (setAllD ρ (l a)) = M.ret true ∧ gi1 (setAllD ρ (l a)) = M.ret ((ys a).map (inj1 a)) ∧ ∀ b ∈ ys a, bs1 (inj1 a b) = some (l1 a b) ∧ c1 (setAllD (wipeD (setAllD ρ (l a)) vs1) (l1 a b)) = M.ret true ∧ e (setAllD (wipeD (setAllD ρ (l a)) vs1) (l1 a b)) = M.ret (y a b)) →
    compM2 bs c gi1 bs1 c1 e vs1 ρ (as.map inj) = M.ret (as.flatMap fun a => (ys a).map (y a))
  | [], _ => rfl
  | a :: as, h => by
    obtain ⟨h1, h2, h3, h4⟩ := h a (by simp)
    rw [List.map_cons]
    unfold compM2
    rw [h1]
    show M.bind _ _ = _
    rw [h2, M.ret_bind, if_pos rfl, h3, M.ret_bind, compM_mapI (l := l1 a) (y := y a) h4, M.ret_bind, compM2_map (as := as) fun a ha => h a (by simp [ha])]
    rfl
theorem q_ixF_s (x : List Nat) (y : D) : ixF (.str x) y = ixD (.str x) y := rfl
theorem q_ixF_l (x : List D) (y : D) : ixF (.lst x) y = ixD (.lst x) y := rfl
theorem q_ixF_t (x : List D) (y : D) : ixF (.tup x) y = ixD (.tup x) y := rfl
theorem q_ixF_b (x : Addr) (y : D) : ixF (.bag x) y = ixD (.bag x) y := rfl
theorem q_inF_s (n : Bool) (x : D) (y : List Nat) : inF n x (.str y) = inE n x (.str y) := rfl
theorem q_inF_l (n : Bool) (x : D) (y : List D) : inF n x (.lst y) = inE n x (.lst y) := rfl
theorem q_inF_t (n : Bool) (x : D) (y : List D) : inF n x (.tup y) = inE n x (.tup y) := rfl
theorem q_lenG_s (x : List Nat) : lenG [.str x] = lenF [.str x] := rfl
theorem q_lenG_l (x : List D) : lenG [.lst x] = M.ret (.int x.length) := rfl
theorem q_lenG_t (x : List D) : lenG [.tup x] = M.ret (.int x.length) := rfl
theorem q_lenG_d (ks : List Key) (ds : List D) : lenG [.dct ks ds] = M.ret (.int ks.length) := rfl
theorem q_lenG_dt (ks : List (List Key)) (ds : List D) : lenG [.dcT ks ds] = M.ret (.int ks.length) := rfl
theorem q_setD (ρ2 : Env2) (i : Nat) (o : O) : setDM i o ρ2 = M.ret (.nx (ρ2.set i (some (.tr o)))) := rfl
theorem q_dput (ρ2 : Env2) (ms : List Nat) (j : Nat) (fv fk : Env → M D) : dputM j ms fv fk ρ2 = bnd (fv (view ms ρ2)) fun d => bnd (fk (view ms (keepIf d.flat ms ρ2))) fun y => dputK (keepIf d.flat ms ρ2) j (keyD y) d (keepIf d.flat ms ρ2)[j]? := rfl
theorem q_dputK {ρ2 : Env2} {j : Nat} {k : Key} {d : D} {ks : List Key} {os : List O} (h : ks.length < 16777216) : dputK ρ2 j (some k) d (some (some (.tr (.k ks os)))) = M.ret (.nx (ρ2.set j (some (.tr (.k (setKs ks k) (setVs ks os k (.v d))))))) := M.guard_of (decide_eq_true h)
theorem q_keyI (i : Int) : keyD (.int i) = some (.inl i) := rfl
theorem q_keyS (x : List Nat) : keyD (.str x) = some (.inr ⟨x.toArray⟩) := rfl
theorem q_seeT (o : O) : (Slot.tr o).see = o.toD := rfl
theorem q_toDv (d : D) : (O.v d).toD = d := rfl
theorem q_toDl (xs : List O) : (O.l xs).toD = .lst (O.toDs xs) := rfl
theorem q_toDk (ks : List Key) (xs : List O) : (O.k ks xs).toD = .dct ks (O.toDs xs) := rfl
theorem q_toDt (ks : List (List Key)) (xs : List O) : (O.t ks xs).toD = .dcT ks (O.toDs xs) := rfl
theorem q_toDs0 : O.toDs [] = [] := rfl
theorem q_toDs1 (x : O) (r : List O) : O.toDs (x :: r) = x.toD :: O.toDs r := rfl
theorem q_toDsm (xs : List D) : O.toDs (xs.map O.v) = xs := O.toDs_v xs
theorem q_fls0 : O.fls [] = true := rfl
theorem q_fls1 (x : O) (r : List O) : O.fls (x :: r) = (x.fl && O.fls r) := rfl
theorem q_flv (d : D) : (O.v d).fl = d.flat := rfl
theorem q_fll (xs : List O) : (O.l xs).fl = O.fls xs := rfl
theorem q_flk (ks : List Key) (xs : List O) : (O.k ks xs).fl = O.fls xs := rfl
theorem q_flt (ks : List (List Key)) (xs : List O) : (O.t ks xs).fl = O.fls xs := rfl
theorem fls_map : ∀ xs : List D, O.fls (xs.map O.v) = xs.all D.flat
  | [] => rfl
  | x :: r => by
    show (_ && O.fls (r.map O.v)) = _
    rw [fls_map r]; rfl
theorem q_flsm (xs : List D) : O.fls (xs.map O.v) = xs.all D.flat := fls_map xs
theorem q_sloV (d : D) : slotO (.v d) = .val d := rfl
theorem q_sloK (ks : List Key) (xs : List O) : slotO (.k ks xs) = .tr (.k ks xs) := rfl
theorem q_sloT (ks : List (List Key)) (xs : List O) : slotO (.t ks xs) = .tr (.t ks xs) := rfl
theorem q_sloL (xs : List D) : slotO (.l (xs.map O.v)) = .own xs := by
  show (match leafs (xs.map O.v) with | some ds => Slot.own ds | none => .tr (.l (xs.map O.v))) = _
  rw [leafs_map]
theorem q_sloLl (xs r : List O) : slotO (.l (.l xs :: r)) = .tr (.l (.l xs :: r)) := rfl
theorem q_oV (ρ : Env) (f : Env → M D) : oV f ρ = bnd (f ρ) fun d => M.ret (.v d) := rfl
theorem q_oL (ρ : Env) (f : Env → M (List D)) : oL f ρ = bnd (f ρ) fun xs => M.ret (.l (xs.map O.v)) := rfl
theorem q_oC (ρ : Env) (o : O) : oC o ρ = M.ret o := rfl
theorem q_oaN (ρ : Env) : oaN ρ = M.ret [] := rfl
theorem q_oaC (ρ : Env) (f : Env → M O) (g : Env → M (List O)) : oaC f g ρ = bnd (f ρ) fun x => bnd (g ρ) fun xs => M.ret (x :: xs) := rfl
def oLstK (os : List O) : M O := M.guard (decide (os.length ≤ sizeLine)) (M.ret (.l os))
theorem q_oLst (ρ : Env) (g : Env → M (List O)) : oLst g ρ = bnd (g ρ) oLstK := rfl
theorem q_oLstK {os : List O} (h : os.length ≤ 16777216) : oLstK os = M.ret (.l os) := M.guard_of (decide_eq_true h)
theorem q_setO (ρ2 : Env2) (ms : List Nat) (i : Nat) (f : Env → M O) : setOM i ms f ρ2 = bnd (f (view ms ρ2)) fun o => M.ret (.nx ((keepIf (O.fls [o]) ms ρ2).set i (some (slotO o)))) := rfl
theorem q_parO (ρ2 : Env2) (ms : List Nat) (i j : Nat) (f : Env → M (List O)) : parOM i j ms f ρ2 = bnd (f (view ms ρ2)) (parOK i j ms ρ2) := rfl
theorem q_parOK (ρ2 : Env2) (ms : List Nat) (i j : Nat) (o1 o2 : O) : parOK i j ms ρ2 [o1, o2] = M.ret (.nx (((keepIf (O.fls [o1, o2]) ms ρ2).set i (some (slotO o1))).set j (some (slotO o2)))) := rfl
theorem q_parO3 (ρ2 : Env2) (ms : List Nat) (i j l : Nat) (f : Env → M (List O)) : parO3M i j l ms f ρ2 = bnd (f (view ms ρ2)) (parO3K i j l ms ρ2) := rfl
theorem q_parO3K (ρ2 : Env2) (ms : List Nat) (i j l : Nat) (o1 o2 o3 : O) : parO3K i j l ms ρ2 [o1, o2, o3] = M.ret (.nx ((((keepIf (O.fls [o1, o2, o3]) ms ρ2).set i (some (slotO o1))).set j (some (slotO o2))).set l (some (slotO o3)))) := rfl
theorem q_appAt (ρ2 : Env2) (ms : List Nat) (j c : Nat) (f : Env → M D) : appAtM j c ms f ρ2 = bnd (f (view ms ρ2)) fun d => appAtK (keepIf d.flat ms ρ2) j c d (keepIf d.flat ms ρ2)[j]? := rfl
theorem q_appAtK (ρ2 : Env2) (j c : Nat) (d : D) (os : List O) : appAtK ρ2 j c d (some (some (.tr (.l os)))) = appAtK2 ρ2 j c d os os[c]? := rfl
theorem q_appAtK2 {ρ2 : Env2} {j c : Nat} {d : D} {os xs : List O} (h : xs.length < 16777216) : appAtK2 ρ2 j c d os (some (.l xs)) = M.ret (.nx (ρ2.set j (some (.tr (.l (os.set c (.l (xs ++ [.v d]))))))))  := M.guard_of (decide_eq_true h)
theorem q_flatS (ls : List (List Nat)) : (ls.map D.str).all D.flat = true := by simp [D.flat]
theorem q_flatI {α : Type} (f : α → Int) (xs : List α) : (xs.map fun a => D.int (f a)).all D.flat = true := by simp [D.flat]
theorem q_flatS2 {α : Type} (f : α → List Nat) (xs : List α) : (xs.map fun a => D.str (f a)).all D.flat = true := by simp [D.flat]
theorem q_mapv0 : ([] : List D).map O.v = [] := rfl
theorem q_sloL0 : slotO (.l []) = .own [] := rfl
theorem q_whileM (ms : List Nat) (t : Env → M Bool) (body : Env2 → M Out) (n : Nat) (ρ : Env2) : whileM ms t body (n + 1) ρ = bnd (t (view ms ρ)) fun k => cnd k (bnd (body ρ) fun o => match o with
      | .nx ρ' => whileM ms t body n ρ'
      | .ct ρ' => whileM ms t body n ρ'
      | .bk ρ' => M.ret (.nx ρ')
      | .rt d => M.ret (.rt d)
      | .rn ys => M.ret (.rn ys)) (M.ret (.nx ρ)) := rfl
theorem q_comp0 (bs : D → Option (List (Nat × D))) (c : Env → M Bool) (e : Env → M D) (ρ : Env) : compM bs c e ρ [] = M.ret [] := rfl
theorem q_compT (i : Nat) (e : Env → M D) (ρ : Env) (x : D) (xs : List D) : compM (bName i) cT e ρ (x :: xs) = bnd (e (ρ.set i (some x))) fun y => bnd (compM (bName i) cT e ρ xs) fun ys => M.ret (y :: ys) := rfl
theorem ixD_strmod {x : List Nat} {i : Int} (hz : x.length ≤ 16777216) (h : 0 < x.length) : ixD (.str x) (.int (i % (x.length : Int))) = M.ret (.str [x.getD (i % (x.length : Int)).toNat 0]) := by
  have h' : (0 : Int) < x.length := by omega
  exact ixD_str hz (Int.emod_nonneg _ (by omega)) (Int.emod_lt_of_pos _ h')
theorem cut_toN {α : Type} (xs : List α) (k : Nat) : cutL xs none (some (k : Int)) = xs.take k := by rw [cut_to _ (by omega), Int.toNat_natCast]
theorem cut_fromN {α : Type} (xs : List α) (k : Nat) : cutL xs (some (k : Int)) none = xs.drop k := by rw [cut_from _ (by omega), Int.toNat_natCast]
theorem cut_from1N {α : Type} (xs : List α) (k : Nat) : cutL xs (some ((k : Int) + 1)) none = xs.drop (k + 1) := by rw [cut_from _ (by omega), show ((k : Int) + 1).toNat = k + 1 by omega]
theorem cut_to1N {α : Type} (xs : List α) (k : Nat) : cutL xs none (some ((k : Int) + 1)) = xs.take (k + 1) := by rw [cut_to _ (by omega), show ((k : Int) + 1).toNat = k + 1 by omega]
theorem cut_to1 {α : Type} (xs : List α) : cutL xs none (some 1) = xs.take 1 := cut_to xs (by decide)
theorem cut_to2 {α : Type} (xs : List α) : cutL xs none (some 2) = xs.take 2 := cut_to xs (by decide)
theorem cut_to3 {α : Type} (xs : List α) : cutL xs none (some 3) = xs.take 3 := cut_to xs (by decide)
theorem cut_from1 {α : Type} (xs : List α) : cutL xs (some 1) none = xs.drop 1 := cut_from xs (by decide)
theorem cut_toM1 {α : Type} (xs : List α) : cutL xs none (some (-1)) = xs.take (xs.length - 1) := by
  unfold cutL
  have e2 : HT.sIx xs.length xs.length (some (-1)) = xs.length - 1 := by
    show (if (-1 : Int) < 0 then (-1 + (xs.length : Int)).toNat else min (-1 : Int).toNat xs.length) = _
    rw [if_pos (by omega)]
    omega
  have e0 : HT.sIx xs.length 0 none = 0 := rfl
  rw [e2, e0, List.drop_zero, Nat.sub_zero]
theorem cut_fromM1 {α : Type} (xs : List α) : cutL xs (some (-1)) none = xs.drop (xs.length - 1) := by
  unfold cutL
  have e2 : HT.sIx xs.length 0 (some (-1)) = xs.length - 1 := by
    show (if (-1 : Int) < 0 then (-1 + (xs.length : Int)).toNat else min (-1 : Int).toNat xs.length) = _
    rw [if_pos (by omega)]
    omega
  have e0 : HT.sIx xs.length xs.length none = xs.length := rfl
  rw [e2, e0, List.take_of_length_le (by simp)]
/-! ### what is computed -/
def Ev {α : Type} (m : M α) (P : α → Prop) : Prop := ∃ a, m = M.ret a ∧ P a
theorem Ev.ret {α : Type} {a : α} {P : α → Prop} (h : P a) : Ev (M.ret a) P := ⟨a, rfl, h⟩
theorem Ev.bind {α β : Type} {m : M α} {f : α → M β} {P : α → Prop} {Q : β → Prop} {t : Tg f} (h : Ev m P) (k : ∀ a, P a → Ev (f a) Q) : Ev (bnd m f t) Q := by
  obtain ⟨a, rfl, hp⟩ := h
  exact k a hp
theorem Ev.tot {α : Type} {p : Addr} {m : M α} {P : α → Prop} (h : Ev m P) : Tot p m P := by
  obtain ⟨a, rfl, hp⟩ := h
  exact Tot.ret hp
theorem Ev.eq {α : Type} {m : M α} {a : α} (h : Ev m (· = a)) : m = M.ret a := by
  obtain ⟨b, e, rfl⟩ := h
  exact e
theorem Tot.bnd {α β : Type} {p : Addr} {m : M α} {f : α → M β} {P : α → Prop} {Q : β → Prop} {t : Tg f} (h : Tot p m P) (k : ∀ a, P a → Tot p (f a) Q) : Tot p (DL.bnd m f t) Q := Tot.bind h k
theorem ev_loop {β : Type} {bs : D → Option (List (Nat × D))} {body : Env2 → M Out} : ∀ {xs : List D} (I : Nat → Env2 → Prop) {ρ : Env2} {κ : Out → M β} {t : Tg κ} {Q : β → Prop} (_ : I 0 ρ) (_ : ∀ i x ρ, xs[i]? = some x → I i ρ → ∃ l, bs x = some l ∧ Ev (body (setAll2 ρ l)) fun o => ∃ ρ', (o = .nx ρ' ∨ o = .ct ρ') ∧ I (i + 1) ρ') (_ : ∀ ρ', I xs.length ρ' → Ev (κ (.nx ρ')) Q), Ev (bnd (loopM bs body xs ρ) κ t) Q := by
  intro xs I ρ κ t Q h0 h hk
  obtain ⟨ρ', e, h'⟩ := loop_inv (bs := bs) (body := body) (xs := xs) (I := I) (fun i x ρ hx hi => by
    obtain ⟨l, e1, o, e2, ρ', e3, h3⟩ := h i x ρ hx hi
    rcases e3 with rfl | rfl
    · exact ⟨l, ρ', e1, .inl e2, h3⟩
    · exact ⟨l, ρ', e1, .inr e2, h3⟩) h0
  rw [e]
  exact hk ρ' h'
theorem get_map {α β : Type} {as : List α} {f : α → β} {i : Nat} {x : β} (h : (as.map f)[i]? = some x) : ∃ a, as[i]? = some a ∧ f a = x := by
  rw [List.getElem?_map] at h
  cases e : as[i]? with
  | none => rw [e] at h; cases h
  | some a => rw [e] at h; cases h; exact ⟨a, rfl, rfl⟩
theorem get_rmap {β : Type} {n : Nat} {f : Nat → β} {i : Nat} {x : β} (h : ((List.range n).map f)[i]? = some x) : i < n ∧ x = f i := by
  obtain ⟨a, h1, rfl⟩ := get_map h
  obtain ⟨h2, rfl⟩ := range_at h1
  exact ⟨h2, rfl⟩
/-- a cut behind a statement -/
theorem tot_cut {p : Addr} {F F2 : Env2 → M Out} {ρ : Env2} {Q : Out → Prop} (P : Env2 → Prop) (h : Tot p (F ρ) fun o => ∃ ρ', o = .nx ρ' ∧ P ρ') (h2 : ∀ ρ', P ρ' → Tot p (F2 ρ') Q) : Tot p (seqM F F2 ρ) Q := tot_seq h h2
/-- a loop, whatever the bag draws -/
theorem tot_loopB {β : Type} {p : Addr} {bs : D → Option (List (Nat × D))} {body : Env2 → M Out} {xs : List D} (I : Nat → Env2 → Prop) {ρ : Env2} {κ : Out → M β} {t : Tg κ} {Q : β → Prop} (h0 : I 0 ρ) (h : ∀ i x ρ, xs[i]? = some x → I i ρ → ∃ l, bs x = some l ∧ Tot p (body (setAll2 ρ l)) fun o => ∃ ρ', (o = .nx ρ' ∨ o = .ct ρ') ∧ I (i + 1) ρ') (hk : ∀ ρ', I xs.length ρ' → Tot p (κ (.nx ρ')) Q) : Tot p (bnd (loopM bs body xs ρ) κ t) Q := by
  have key : ∀ (xs : List D) (I : Nat → Env2 → Prop) (ρ : Env2), I 0 ρ → (∀ i x ρ, xs[i]? = some x → I i ρ → ∃ l, bs x = some l ∧ Tot p (body (setAll2 ρ l)) fun o => ∃ ρ', (o = .nx ρ' ∨ o = .ct ρ') ∧ I (i + 1) ρ') → Tot p (loopM bs body xs ρ) fun o => ∃ ρ', o = .nx ρ' ∧ I xs.length ρ' := by
    intro xs
    induction xs with
    | nil => intro I ρ h0 h; exact Tot.ret ⟨ρ, rfl, h0⟩
    | cons x xs ih =>
      intro I ρ h0 h
      obtain ⟨l, e1, h1⟩ := h 0 x ρ rfl h0
      rw [q_loop1 ρ e1]
      refine h1.bnd fun o ho => ?_
      obtain ⟨ρ', ho, hi⟩ := ho
      have := ih (fun i => I (i + 1)) ρ' hi fun i y ρ hy hi => h (i + 1) y ρ (by simpa using hy) hi
      rcases ho with rfl | rfl
      · exact this
      · exact this
  refine (key xs I ρ h0 h).bnd fun o ho => ?_
  obtain ⟨ρ', rfl, hi⟩ := ho
  exact hk ρ' hi
/-- a loop whose turns keep what holds -/
theorem tot_loopC {β : Type} {p : Addr} {bs : D → Option (List (Nat × D))} {body : Env2 → M Out} {xs : List D} (I : Env2 → Prop) {ρ : Env2} {κ : Out → M β} {t : Tg κ} {Q : β → Prop} (h0 : I ρ) (h : ∀ x ∈ xs, ∀ ρ, I ρ → ∃ l, bs x = some l ∧ Tot p (body (setAll2 ρ l)) fun o => ∃ ρ', (o = .nx ρ' ∨ o = .ct ρ') ∧ I ρ') (hk : ∀ ρ', I ρ' → Tot p (κ (.nx ρ')) Q) : Tot p (bnd (loopM bs body xs ρ) κ t) Q :=
  tot_loopB (fun _ => I) h0 (fun i x ρ hx hi => h x (List.mem_of_getElem? hx) ρ hi) hk
/-- .. as the last statement -/
theorem tot_loopZ {p : Addr} {bs : D → Option (List (Nat × D))} {body : Env2 → M Out} {xs : List D} (I : Env2 → Prop) {ρ : Env2} {Q : Out → Prop} (h0 : I ρ) (h : ∀ x ∈ xs, ∀ ρ, I ρ → ∃ l, bs x = some l ∧ Tot p (body (setAll2 ρ l)) fun o => ∃ ρ', (o = .nx ρ' ∨ o = .ct ρ') ∧ I ρ') (hk : ∀ ρ', I ρ' → Q (.nx ρ')) : Tot p (loopM bs body xs ρ) Q := by
  rw [← M.bind_ret (loopM bs body xs ρ)]
  exact tot_loopC (t := Tg.mk _) I h0 h fun ρ' hi => Tot.ret (hk ρ' hi)
theorem ev_loopZ {bs : D → Option (List (Nat × D))} {body : Env2 → M Out} {xs : List D} (I : Nat → Env2 → Prop) {ρ : Env2} {Q : Out → Prop} (h0 : I 0 ρ) (h : ∀ i x ρ, xs[i]? = some x → I i ρ → ∃ l, bs x = some l ∧ Ev (body (setAll2 ρ l)) fun o => ∃ ρ', (o = .nx ρ' ∨ o = .ct ρ') ∧ I (i + 1) ρ') (hk : ∀ ρ', I xs.length ρ' → Q (.nx ρ')) : Ev (loopM bs body xs ρ) Q := by
  rw [← M.bind_ret (loopM bs body xs ρ)]
  exact ev_loop (t := Tg.mk _) I h0 h fun ρ' hi => Ev.ret (hk ρ' hi)
theorem okA_of {k w : Nat} {d : D} (h : Okd k w d) (hk : k ≤ 64) (hw : w ≤ 16777216) : okA d = true := h.ok hk hw
theorem okA_lst {k w : Nat} {ds : List D} (h : ∀ d ∈ ds, Okd k w d) (hk : k ≤ 63) (hw : ds.length * (w + 2) + 3 ≤ 16777216) : okA (.lst ds) = true := (Okd.lst h).ok (by omega) hw
theorem okA_tup {k w : Nat} {ds : List D} (h : ∀ d ∈ ds, Okd k w d) (hk : k ≤ 63) (hw : ds.length * (w + 2) + 3 ≤ 16777216) : okA (.tup ds) = true := (Okd.tup h).ok (by omega) hw
/-- how a loop's turn may end -/
def Turn (I P : Out → Prop) (o : Out) : Prop := match o with
  | .nx ρ => I (.nx ρ)
  | .ct ρ => I (.nx ρ)
  | .bk ρ => P (.nx ρ)
  | .rt d => P (.rt d)
  | .rn xs => P (.rn xs)
theorem ev_loopW {bs : D → Option (List (Nat × D))} {body : Env2 → M Out} : ∀ {xs : List D} (I : Nat → Env2 → Prop) {P : Out → Prop} {ρ : Env2} (_ : I 0 ρ) (_ : ∀ i x ρ, xs[i]? = some x → I i ρ → ∃ l, bs x = some l ∧ Ev (body (setAll2 ρ l)) (Turn (fun o => ∃ ρ', o = .nx ρ' ∧ I (i + 1) ρ') P)) (_ : ∀ ρ', I xs.length ρ' → P (.nx ρ')), Ev (loopM bs body xs ρ) P
  | [], I, P, ρ, h0, _, hk => Ev.ret (hk ρ h0)
  | x :: xs, I, P, ρ, h0, h, hk => by
    obtain ⟨l, e1, h1⟩ := h 0 x ρ rfl h0
    rw [q_loop1 ρ e1]
    refine Ev.bind h1 fun o ho => ?_
    have go : ∀ ρ', I 1 ρ' → Ev (loopM bs body xs ρ') P := fun ρ' hi => ev_loopW (xs := xs) (fun i => I (i + 1)) hi (fun i y ρ hy hi => h (i + 1) y ρ (by simpa using hy) hi) hk
    cases o with
    | nx ρ1 => obtain ⟨ρ', e, hi⟩ := ho; cases e; exact go _ hi
    | ct ρ1 => obtain ⟨ρ', e, hi⟩ := ho; cases e; exact go _ hi
    | bk ρ1 => exact Ev.ret ho
    | rt d => exact Ev.ret ho
    | rn d => exact Ev.ret ho
theorem tot_loopW {p : Addr} {bs : D → Option (List (Nat × D))} {body : Env2 → M Out} : ∀ {xs : List D} (I : Nat → Env2 → Prop) {P : Out → Prop} {ρ : Env2} (_ : I 0 ρ) (_ : ∀ i x ρ, xs[i]? = some x → I i ρ → ∃ l, bs x = some l ∧ Tot p (body (setAll2 ρ l)) (Turn (fun o => ∃ ρ', o = .nx ρ' ∧ I (i + 1) ρ') P)) (_ : ∀ ρ', I xs.length ρ' → P (.nx ρ')), Tot p (loopM bs body xs ρ) P
  | [], I, P, ρ, h0, _, hk => Tot.ret (hk ρ h0)
  | x :: xs, I, P, ρ, h0, h, hk => by
    obtain ⟨l, e1, h1⟩ := h 0 x ρ rfl h0
    rw [q_loop1 ρ e1]
    refine h1.bnd fun o ho => ?_
    have go : ∀ ρ', I 1 ρ' → Tot p (loopM bs body xs ρ') P := fun ρ' hi => tot_loopW (xs := xs) (fun i => I (i + 1)) hi (fun i y ρ hy hi => h (i + 1) y ρ (by simpa using hy) hi) hk
    cases o with
    | nx ρ1 => obtain ⟨ρ', e, hi⟩ := ho; cases e; exact go _ hi
    | ct ρ1 => obtain ⟨ρ', e, hi⟩ := ho; cases e; exact go _ hi
    | bk ρ1 => exact Tot.ret ho
    | rt d => exact Tot.ret ho
    | rn d => exact Tot.ret ho
theorem ev_while {ms : List Nat} {t : Env → M Bool} {body : Env2 → M Out} (N : Nat) (I : Nat → Env2 → Prop) {P : Out → Prop} (h : ∀ i ρ, I i ρ → (t (view ms ρ) = M.ret false ∧ P (.nx ρ)) ∨ (t (view ms ρ) = M.ret true ∧ i < N ∧ Ev (body ρ) (Turn (fun o => ∃ ρ', o = .nx ρ' ∧ I (i + 1) ρ') P))) :
    ∀ (fuel : Nat) (i : Nat) (ρ : Env2), N - i < fuel → I i ρ → Ev (whileM ms t body fuel ρ) P
  | 0, _, _, hf, _ => by omega
  | fuel + 1, i, ρ, hf, hi => by
    rw [q_whileM]
    rcases h i ρ hi with ⟨e, hp⟩ | ⟨e, hN, hb⟩
    · rw [e]
      exact Ev.ret hp
    · rw [e]
      show Ev (bnd (body ρ) _) P
      refine Ev.bind hb fun o ho => ?_
      cases o with
      | nx ρ1 => obtain ⟨ρ', e, hi⟩ := ho; cases e; exact ev_while N I h fuel (i + 1) _ (by omega) hi
      | ct ρ1 => obtain ⟨ρ', e, hi⟩ := ho; cases e; exact ev_while N I h fuel (i + 1) _ (by omega) hi
      | bk ρ1 => exact Ev.ret ho
      | rt d => exact Ev.ret ho
      | rn d => exact Ev.ret ho
/-! ### texts in lists and as keys -/
theorem inE_strs (x : List Nat) (ls : List (List Nat)) : inE false (.str x) (.lst (ls.map D.str)) = M.ret (.bl (decide (x ∈ ls))) := by
  have hf : (flatD (.str x) && (ls.map D.str).all flatD) = true := by simp [flatD]
  have e : ((ls.map D.str).any fun y => eqF y (.str x)) = decide (x ∈ ls) := by
    induction ls with
    | nil => rfl
    | cons a r ih =>
      rw [List.map_cons, List.any_cons, ih (by simp [flatD])]
      by_cases h : a = x
      · simp [eqF, h]
      · have : ¬ x = a := fun z => h z.symm
        simp [eqF, h, this]
  have : inE false (.str x) (.lst (ls.map D.str)) = M.guard (flatD (.str x) && (ls.map D.str).all flatD) (M.ret (.bl ((ls.map D.str).any fun y => eqF y (.str x)))) := by
    cases x with
    | nil => rfl
    | cons c r => cases r <;> rfl
  rw [this, M.guard_of hf, e]
theorem indexD_strs {x : List Nat} {ls : List (List Nat)} (h : x ∈ ls) : indexD (.lst (ls.map D.str)) (.str x) = M.ret (.int ((ls.idxOf x : Nat) : Int)) := by
  have hf : (flatD (.str x) && (ls.map D.str).all flatD) = true := by simp [flatD]
  have e : (ls.map D.str).findIdx? (fun z => eqF z (.str x)) = some (ls.idxOf x) := by
    clear hf
    induction ls with
    | nil => cases h
    | cons a r ih =>
      rw [List.map_cons, List.findIdx?_cons, List.idxOf_cons]
      by_cases ha : a = x
      · simp [eqF, ha]
      · have hx : x ∈ r := by
          rcases List.mem_cons.mp h with z | z
          · exact absurd z.symm ha
          · exact z
        rw [ih hx]
        have hb : (a == x) = false := by simpa using ha
        simp [eqF, hb]
  show M.guard _ (match (ls.map D.str).findIdx? (fun z => eqF z (.str x)) with | some j => M.ret (D.int (j : Nat)) | none => M.fail) = _
  rw [M.guard_of hf, e]
abbrev kS (x : List Nat) : Key := .inr ⟨x.toArray⟩
theorem kS_inj {x y : List Nat} (h : kS x = kS y) : x = y := by
  have := congrArg (fun z : Key => match z with | .inr s => s.cps.toList | .inl _ => []) h
  simpa using this
theorem mem_kS {x : List Nat} {ls : List (List Nat)} : kS x ∈ ls.map kS ↔ x ∈ ls := by
  rw [List.mem_map]
  refine ⟨fun ⟨y, hy, e⟩ => by rw [← kS_inj e]; exact hy, fun h => ⟨x, h, rfl⟩⟩
theorem getK_some {κ α : Type} [DecidableEq κ] : ∀ {ks : List κ} {ds : List α} {k : κ}, ks.length = ds.length → ((getK ks ds k).isSome = true ↔ k ∈ ks)
  | [], _, _, _ => by simp [getK]
  | a :: ks, d :: ds, k, h => by
    have ih := getK_some (ks := ks) (ds := ds) (k := k) (by simpa using h)
    unfold getK at ih ⊢
    rw [List.zip_cons_cons, List.find?_cons]
    by_cases e : a = k
    · simp [e]
    · have : ¬ k = a := fun z => e z.symm
      simp only [e, decide_false, List.mem_cons, this, false_or]
      exact ih
  | _ :: _, [], _, h => by simp at h
theorem inF_keys (neg : Bool) (x : List Nat) (ls : List (List Nat)) (ds : List D) (h : ls.length = ds.length) : inF neg (.str x) (.dct (ls.map kS) ds) = M.ret (.bl (if neg then !decide (x ∈ ls) else decide (x ∈ ls))) := by
  show M.ret (D.bl (if neg then !(getK (ls.map kS) ds (kS x)).isSome else (getK (ls.map kS) ds (kS x)).isSome)) = _
  have e : (getK (ls.map kS) ds (kS x)).isSome = decide (x ∈ ls) := by
    rw [Bool.eq_iff_iff, decide_eq_true_iff]
    exact (getK_some (by simpa using h)).trans mem_kS
  rw [e]
theorem toDs_map {α : Type} (f : α → D) : ∀ xs : List α, O.toDs (xs.map fun a => O.v (f a)) = xs.map f
  | [] => rfl
  | x :: r => by
    show _ :: O.toDs (r.map fun a => O.v (f a)) = _
    rw [toDs_map f r]; rfl
theorem setKs_new {κ : Type} [DecidableEq κ] {ks : List κ} {k : κ} (h : k ∉ ks) : setKs ks k = ks ++ [k] := if_neg h
theorem setVs_new {κ α : Type} [DecidableEq κ] {ks : List κ} {ds : List α} {k : κ} {d : α} (h : k ∉ ks) : setVs ks ds k d = ds ++ [d] := if_neg h
theorem compM_mapE {bs : D → Option (List (Nat × D))} {c : Env → M Bool} {e : Env → M D} {ρ : Env} {y : Nat → D} {inj : Nat → D} {l : Nat → List (Nat × D)} {n : Nat} (h : ∀ k, k < n → bs (inj k) = some (l k) ∧ c (setAllD ρ (l k)) = M.ret true ∧ e (setAllD ρ (l k)) = M.ret (y k)) : compM bs c e ρ ((List.range n).map inj) = M.ret ((List.range n).map y) :=
  compM_mapI fun k hk => h k (List.mem_range.mp hk)
end DL
set_option Elab.async false
set_option maxRecDepth 100000
set_option autoImplicit false
set_option linter.unusedVariables false
set_option maxHeartbeats 4000000
namespace LW
open PySem L2 PySem.Spec PyProof.Rows DL
local macro_rules | `(tactic| walk_at "ev") => `(tactic| try simp -implicitDefEqProofs only [DL.runD, DL.runN, DL.startD, seqM, setM, setNM, retM, retNM, dropM, ifM, unpM, List.map_cons, List.map_nil, List.length_cons, List.length_nil, Nat.reduceAdd, Nat.reduceSub, List.replicate, List.cons_append, List.nil_append, view_eq, viewAt_cons, viewAt_nil, List.contains_cons, List.contains_nil, Nat.reduceBEq, Bool.or_true, Bool.or_false, Bool.true_or, if_true, Bool.false_eq_true, if_false, Option.map_some, Option.map_none, see_val, see_own, e2, t2, e1, cst, aN, aC, eCall, nCall, eN, nLst, eTup, tVal, tNotM, eAnd, eNot, eIf, iAny, iRg1, iRg2, nLc, oN, oS, eSl, sNil, rd_0, rd_1, rd_2, rd_3, rd_4, rd_5, rd_6, rd_7, rd_8, rd_9, rd_10, rd_11, rd_12, rd_13, rd_14, rd_15, rd_16, rd_17, rd_18, M.ret_bind, M.bind_assoc, flat_int, flat_str, flat_bl, flat_non, flat_bag, flat_lst, flat_tup, keepIf_t, keepIf_f, frz_eq, frzAt_cons, frzAt_nil, List.set_cons_succ, List.set_cons_zero, subD_int, addD_int, negD_int, asI_int, asB_bl, truD_bl, lenF_lst, lenF_tup, intF_int, intF_bl, absF_int, ltD_int, leD_int, gtD_int, geD_int, eqD_int, eqD_str, neD_int, neD_str, inD_str, notInD_str, slD_lst, slD_scr, revD_lst, itemsD_lst, itemsD_tup, itemsD_str, Bool.not_true, Bool.not_false])
local macro_rules | `(tactic| walk_at "evs") => `(tactic| try simp -implicitDefEqProofs only [DL.runD, DL.runN, DL.startD, seqM, setM, setNM, retM, retNM, dropM, ifM, unpM, List.map_cons, List.map_nil, List.length_cons, List.length_nil, Nat.reduceAdd, Nat.reduceSub, List.replicate, List.cons_append, List.nil_append, view_eq, viewAt_cons, viewAt_nil, List.contains_cons, List.contains_nil, Nat.reduceBEq, Bool.or_true, Bool.or_false, Bool.true_or, if_true, Bool.false_eq_true, if_false, Option.map_some, Option.map_none, see_val, see_own, e2, t2, e1, cst, aN, aC, eCall, nCall, eN, nLst, eTup, tVal, tNotM, eAnd, eNot, eIf, iAny, iRg1, iRg2, nLc, oN, oS, eSl, sNil, rd_0, rd_1, rd_2, rd_3, rd_4, rd_5, rd_6, rd_7, rd_8, rd_9, rd_10, rd_11, rd_12, rd_13, rd_14, rd_15, rd_16, rd_17, rd_18, M.ret_bind, M.bind_assoc, flat_int, flat_str, flat_bl, flat_non, flat_bag, flat_lst, flat_tup, keepIf_t, keepIf_f, frz_eq, frzAt_cons, frzAt_nil, List.set_cons_succ, List.set_cons_zero, subD_int, addD_int, negD_int, asI_int, asB_bl, truD_bl, lenF_lst, lenF_tup, intF_int, intF_bl, absF_int, ltD_int, leD_int, gtD_int, geD_int, eqD_int, eqD_str, neD_int, neD_str, inD_str, notInD_str, slD_lst, slD_scr, revD_lst, itemsD_lst, itemsD_tup, itemsD_str, Bool.not_true, Bool.not_false, lenF_str, slD_str, modD_int, revD_str, *])
local macro_rules | `(tactic| walk_at "env") => `(tactic| try simp -implicitDefEqProofs only [List.all_cons, List.all_nil, Bool.and_true, Bool.true_and, setAll2, bName, env0, List.replicate, flat_int, flat_str, flat_bl, flat_non, flat_bag, flat_lst, flat_tup, keepIf_t, keepIf_f, frz_eq, frzAt_cons, frzAt_nil, List.contains_cons, List.contains_nil, Nat.reduceBEq, Nat.reduceAdd, Bool.or_true, Bool.or_false, Bool.true_or, if_true, Bool.false_eq_true, if_false, Option.map_some, Option.map_none, see_val, see_own, List.set_cons_succ, List.set_cons_zero])
/-! _law_bag -/
def F__law_bag : Env2 → M Out :=
  (retNM [0, 1] (nLst (aC (cst (.int 0)) (aC (cst (.int 1234567891)) (aC (cst (.int 0)) (aC (eN (nLc [1] (iAny (eSl (rdEnv 0) oN (oS (cst (.int 63))))) (bName 1) cT (eCall absF (aC (rdEnv 1) aN)))) aN))))))
def R__law_bag : List D → M (List D) := runN 2 F__law_bag
/-! _law_take -/
def F__law_take : Env2 → M Out :=
  (seqM (ifM [0] (t2 (eqD false) (e2 ixD (rdEnv 0) (cst (.int 0))) (cst (.int 0)))
  (seqM (setM 4 [] (cst (.int 0)))
  (seqM (ifM [0] (t2 ltD (e2 ixD (rdEnv 0) (cst (.int 2))) (eCall lenF (aC (e2 ixD (rdEnv 0) (cst (.int 3))) aN)))
  (setM 4 [0] (e2 ixD (e2 ixD (rdEnv 0) (cst (.int 3))) (e2 ixD (rdEnv 0) (cst (.int 2)))))
  sNil)
  (seqM (bagAugM 0 2 [] (cst (.int 1)))
  (seqM (ifM [4] (t2 geD (rdEnv 4) (cst (.int 1000000000000000000)))
  (bagSetM 0 0 [4] (rdEnv 4))
  sNil)
  (seqM (setM 5 [0, 4] (e2 addD (e2 addD (e2 mulD (e2 ixD (rdEnv 0) (cst (.int 1))) (cst (.int 48271))) (e2 modD (eCall intF (aC (rdEnv 4) aN)) (cst (.int 2147483647)))) (e2 mulD (cst (.int 7919)) (e2 ixD (rdEnv 0) (cst (.int 2))))))
  (bagSetM 0 1 [5] (e2 modD (eCall intF (aC (rdEnv 5) aN)) (cst (.int 2147483647)))))))))
  sNil)
  (seqM (ifM [0] (t2 gtD (e2 ixD (rdEnv 0) (cst (.int 0))) (cst (.int 0)))
  (seqM (setM 6 [0, 1] (e2 modD (eCall intF (aC (e2 ixD (rdEnv 0) (cst (.int 0))) aN)) (rdEnv 1)))
  (seqM (bagSetM 0 0 [0, 1] (e2 divD (e2 ixD (rdEnv 0) (cst (.int 0))) (rdEnv 1)))
  (retM [6] (rdEnv 6))))
  sNil)
  (seqM (setM 2 [0] (e2 modD (eCall intF (aC (e2 mulD (e2 addD (e2 ixD (rdEnv 0) (cst (.int 1))) (cst (.int 1))) (cst (.int 39373))) aN)) (cst (.int 1000000007))))
  (seqM (setM 3 [2] (e2 modD (eCall intF (aC (e2 mulD (e2 modD (eCall intF (aC (e2 mulD (rdEnv 2) (rdEnv 2)) aN)) (cst (.int 998244353))) (cst (.int 30011))) aN)) (cst (.int 998244353))))
  (seqM (ifM [1] (t2 gtD (rdEnv 1) (cst (.int 1000000)))
  (retM [1, 2, 3] (e2 modD (eCall intF (aC (e2 addD (e2 mulD (rdEnv 3) (cst (.int 1000000007))) (rdEnv 2)) aN)) (rdEnv 1)))
  sNil)
  (retM [1, 3] (e2 modD (eCall intF (aC (e2 divD (rdEnv 3) (cst (.int 7))) aN)) (rdEnv 1))))))))
def R__law_take : List D → M D := runD 7 F__law_take
/-! _law_alike -/
def F__law_alike : Env2 → M Out :=
  (retM [0, 1] (eAnd (e2 (eqD false) (rdEnv 0) (rdEnv 1)) (e2 (eqD false) (eCall reprF (aC (rdEnv 0) aN)) (eCall reprF (aC (rdEnv 1) aN)))))
def R__law_alike : List D → M D := runD 2 F__law_alike
theorem bag_made (ns : List Int) (h : ns.length ≤ 63) : ∃ cs : List Int, R__law_bag [.scr ns] none = some ([.int 0, .int 1234567891, .int 0, .lst (cs.map D.int)], none) := by
  refine ⟨ns.map fun n => if n < 0 then -n else n, ?_⟩
  simp only [R__law_bag, F__law_bag]
  walk_at "ev"
  rw [cut_all _ (by simp; omega), compM_mapI (l := fun a => [(1, D.int a)]) (y := fun n => D.int (if n < 0 then -n else n)) (fun a _ => ⟨rfl, rfl, rfl⟩)]
  walk_at "ev"
  rw [szL_ok (by simp; omega)]
  walk_at "ev"
  rw [szL_ok (by simp)]
  simp only [List.map_map]
  rfl
theorem bx0 {α : Type} {p : Addr} {g : Bg} {f : D → M α} (h : g.p = p) : M.bind (ixD (.bag p) (.int 0)) f (some g) = f (.int g.z0) (some g) := by
  subst h
  refine M.bind_eq ?_
  show (if g.p = g.p then _ else none) = _
  rw [if_pos rfl]; rfl
theorem bx1 {α : Type} {p : Addr} {g : Bg} {f : D → M α} (h : g.p = p) : M.bind (ixD (.bag p) (.int 1)) f (some g) = f (.int g.z1) (some g) := by
  subst h
  refine M.bind_eq ?_
  show (if g.p = g.p then _ else none) = _
  rw [if_pos rfl]; rfl
theorem bx2 {α : Type} {p : Addr} {g : Bg} {f : D → M α} (h : g.p = p) : M.bind (ixD (.bag p) (.int 2)) f (some g) = f (.int g.z2) (some g) := by
  subst h
  refine M.bind_eq ?_
  show (if g.p = g.p then _ else none) = _
  rw [if_pos rfl]; rfl
theorem bx3 {α : Type} {p : Addr} {g : Bg} {f : D → M α} (h : g.p = p) : M.bind (ixD (.bag p) (.int 3)) f (some g) = f (.lst (g.cs.map D.int)) (some g) := by
  subst h
  refine M.bind_eq ?_
  show (if g.p = g.p then _ else none) = _
  rw [if_pos rfl]; rfl
theorem bput {p : Addr} {g g' : Bg} {k n : Int} {r : Env2} (h : g.p = p) (e : putB k n g = some g') : bagPut 0 k (.int n) (some (.val (.bag p)) :: r) (some g) = some (.nx (some (.val (.bag p)) :: r), some g') := by
  subst h
  show (if g.p = g.p then _ else none) = _
  rw [if_pos rfl, e]; rfl
def takeTail : Env2 → M Out :=
  (seqM (ifM [0] (t2 gtD (e2 ixD (rdEnv 0) (cst (.int 0))) (cst (.int 0)))
  (seqM (setM 6 [0, 1] (e2 modD (eCall intF (aC (e2 ixD (rdEnv 0) (cst (.int 0))) aN)) (rdEnv 1)))
  (seqM (bagSetM 0 0 [0, 1] (e2 divD (e2 ixD (rdEnv 0) (cst (.int 0))) (rdEnv 1)))
  (retM [6] (rdEnv 6))))
  sNil)
  (seqM (setM 2 [0] (e2 modD (eCall intF (aC (e2 mulD (e2 addD (e2 ixD (rdEnv 0) (cst (.int 1))) (cst (.int 1))) (cst (.int 39373))) aN)) (cst (.int 1000000007))))
  (seqM (setM 3 [2] (e2 modD (eCall intF (aC (e2 mulD (e2 modD (eCall intF (aC (e2 mulD (rdEnv 2) (rdEnv 2)) aN)) (cst (.int 998244353))) (cst (.int 30011))) aN)) (cst (.int 998244353))))
  (seqM (ifM [1] (t2 gtD (rdEnv 1) (cst (.int 1000000)))
  (retM [1, 2, 3] (e2 modD (eCall intF (aC (e2 addD (e2 mulD (rdEnv 3) (cst (.int 1000000007))) (rdEnv 2)) aN)) (rdEnv 1)))
  sNil)
  (retM [1, 3] (e2 modD (eCall intF (aC (e2 divD (rdEnv 3) (cst (.int 7))) aN)) (rdEnv 1)))))))
/-- the last part -/
theorem take_end {p : Addr} {m : Int} (h1 : 1 ≤ m) (h2 : m < 1073741824) {s4 s5 : Option Slot} (g : Bg) (hg : okB p g) : ∃ d g', (M.bind (takeTail [some (.val (.bag p)), some (.val (.int m)), none, none, s4, s5, none]) fun o => match o with
  | .rt d => M.ret d
  | .rn xs => M.ret (.lst xs)
  | .nx _ => M.ret .non
  | _ => M.fail) (some g) = some (d, some g') ∧ okB p g' ∧ ∃ v, d = .int v ∧ 0 ≤ v ∧ v < m := by
  obtain ⟨hp, hz⟩ := hg
  have hm : 0 < m := by omega
  have fin : ∀ z : Int, 0 ≤ z % m ∧ z % m < m := fun z => ⟨Int.emod_nonneg _ (by omega), Int.emod_lt_of_pos _ hm⟩
  unfold takeTail
  walk_at "ev"
  rw [bx0 hp]
  walk_at "ev"
  by_cases h0 : 0 < g.z0
  · simp only [decide_eq_true h0, if_true]
    walk_at "ev"
    rw [bx0 hp]
    walk_at "ev"
    simp only [modD_int hm]
    walk_at "ev"
    simp only [bagSetM]
    walk_at "ev"
    rw [bx0 hp, divD_int hm h2]
    walk_at "ev"
    rw [M.bind_eq (bput hp (show putB 0 (g.z0 / m) g = some { g with z0 := g.z0 / m } from rfl))]
    walk_at "ev"
    exact ⟨_, _, rfl, ⟨hp, hz⟩, _, rfl, fin _⟩
  · simp only [decide_eq_false h0, if_false, Bool.false_eq_true]
    walk_at "ev"
    rw [bx1 hp]
    walk_at "ev"
    rw [mulD_int (okM_r (by decide) (by decide))]
    walk_at "ev"
    simp only [modD_int (show (0 : Int) < 1000000007 by decide), modD_int (show (0 : Int) < 998244353 by decide)]
    walk_at "ev"
    have hb : ∀ z : Int, 0 ≤ z % 1000000007 ∧ z % 1000000007 < 1000000007 := fun z => ⟨Int.emod_nonneg _ (by decide), Int.emod_lt_of_pos _ (by decide)⟩
    have hb1 := hb ((g.z1 + 1) * 39373)
    rw [mulD_int (okM_r (by omega) (by omega))]
    walk_at "ev"
    rw [modD_int (show (0 : Int) < 998244353 by decide)]
    walk_at "ev"
    rw [mulD_int (okM_r (by decide) (by decide))]
    walk_at "ev"
    rw [modD_int (show (0 : Int) < 998244353 by decide)]
    walk_at "ev"
    by_cases h3 : 1000000 < m
    · simp only [decide_eq_true h3, if_true]
      walk_at "ev"
      rw [mulD_int (okM_r (by decide) (by decide))]
      walk_at "ev"
      rw [modD_int hm]
      walk_at "ev"
      exact ⟨_, _, rfl, ⟨hp, hz⟩, _, rfl, fin _⟩
    · simp only [decide_eq_false h3, if_false, Bool.false_eq_true]
      walk_at "ev"
      rw [divD_int (by decide) (by decide)]
      walk_at "ev"
      rw [modD_int hm]
      walk_at "ev"
      exact ⟨_, _, rfl, ⟨hp, hz⟩, _, rfl, fin _⟩
theorem seq_app {F1 F2 : Env2 → M Out} {ρ ρ' : Env2} {b b' : Bs} (h : F1 ρ b = some (.nx ρ', b')) : seqM F1 F2 ρ b = F2 ρ' b' := M.bind_eq h
theorem bindF_app {α : Type} {m m' : M Out} {k : Out → M α} {b b' : Bs} (h : m b = m' b') : M.bind m k b = M.bind m' k b' := by
  unfold M.bind
  rw [h]
theorem take_cell {p : Addr} {m : Int} (g : Bg) (hg : okB p g) {c : Int} : ∃ s5 g', (seqM (bagAugM 0 2 [] (cst (.int 1)))
  (seqM (ifM [4] (t2 geD (rdEnv 4) (cst (.int 1000000000000000000)))
  (bagSetM 0 0 [4] (rdEnv 4))
  sNil)
  (seqM (setM 5 [0, 4] (e2 addD (e2 addD (e2 mulD (e2 ixD (rdEnv 0) (cst (.int 1))) (cst (.int 48271))) (e2 modD (eCall intF (aC (rdEnv 4) aN)) (cst (.int 2147483647)))) (e2 mulD (cst (.int 7919)) (e2 ixD (rdEnv 0) (cst (.int 2))))))
  (bagSetM 0 1 [5] (e2 modD (eCall intF (aC (rdEnv 5) aN)) (cst (.int 2147483647))))))) [some (.val (.bag p)), some (.val (.int m)), none, none, some (.val (.int c)), none, none] (some g) = some (.nx [some (.val (.bag p)), some (.val (.int m)), none, none, some (.val (.int c)), s5, none], some g') ∧ okB p g' := by
  obtain ⟨hp, hz⟩ := hg
  have e1 : bagAugM 0 2 [] (cst (.int 1)) [some (.val (.bag p)), some (.val (.int m)), none, none, some (.val (.int c)), none, none] (some g) = some (.nx [some (.val (.bag p)), some (.val (.int m)), none, none, some (.val (.int c)), none, none], some { g with z2 := g.z2 + 1 }) := by
    simp only [bagAugM, cst, M.ret_bind]
    rw [if_neg (by decide), if_neg (by decide)]
    exact bput hp rfl
  rw [seq_app e1]
  have e2' : ∃ z, (ifM [4] (t2 geD (rdEnv 4) (cst (.int 1000000000000000000))) (bagSetM 0 0 [4] (rdEnv 4)) sNil) [some (.val (.bag p)), some (.val (.int m)), none, none, some (.val (.int c)), none, none] (some { g with z2 := g.z2 + 1 }) = some (.nx [some (.val (.bag p)), some (.val (.int m)), none, none, some (.val (.int c)), none, none], some { g with z2 := g.z2 + 1, z0 := z }) := by
    walk_at "ev"
    by_cases h : 1000000000000000000 ≤ c
    · simp only [decide_eq_true h, if_true, bagSetM]
      walk_at "ev"
      exact ⟨c, bput hp rfl⟩
    · simp only [decide_eq_false h, if_false, Bool.false_eq_true]
      exact ⟨g.z0, rfl⟩
  obtain ⟨z, e3⟩ := e2'
  rw [seq_app e3]
  walk_at "ev"
  simp only [bagSetM]
  walk_at "ev"
  rw [bx1 (by exact hp)]
  rw [mulD_int (okM_r (by decide) (by decide))]
  walk_at "ev"
  rw [modD_int (by decide)]
  walk_at "ev"
  rw [bx2 (by exact hp)]
  rw [mulD_int (okM_l (by decide) (by decide))]
  walk_at "ev"
  rw [modD_int (by decide)]
  walk_at "ev"
  refine ⟨_, _, bput (by exact hp) rfl, ?_, ?_⟩
  · exact hp
  · show 0 ≤ g.z2 + 1
    omega
theorem take_tot {p : Addr} {m : Int} (h1 : 1 ≤ m) (h2 : m < 1073741824) : Tot p (R__law_take [.bag p, .int m]) fun d => ∃ v, d = .int v ∧ 0 ≤ v ∧ v < m := by
  intro g hg
  obtain ⟨hp, hz⟩ := id hg
  show ∃ d g', M.bind (F__law_take [some (.val (.bag p)), some (.val (.int m)), none, none, none, none, none]) _ (some g) = some (d, some g') ∧ _
  by_cases h0 : g.z0 = 0
  · have hh : ∃ s4 s5 g', F__law_take [some (.val (.bag p)), some (.val (.int m)), none, none, none, none, none] (some g) = takeTail [some (.val (.bag p)), some (.val (.int m)), none, none, s4, s5, none] (some g') ∧ okB p g' := by
      by_cases hc : g.z2 < (g.cs.length : Int)
      · obtain ⟨c, hc2⟩ : ∃ c, atI (g.cs.map D.int) g.z2 = some (D.int c) := by
          rw [atI_lt hz (by simpa using hc), List.getElem?_map, List.getElem?_eq_getElem (by omega)]
          exact ⟨_, rfl⟩
        obtain ⟨s5, g', e, ho⟩ := take_cell (m := m) g hg (c := c)
        refine ⟨some (.val (.int c)), s5, g', ?_, ho⟩
        unfold F__law_take
        refine seq_app ?_
        rw [← e]
        simp only [ifM, t2, e2, cst, view_eq, viewAt_cons, viewAt_nil, List.contains_cons, List.contains_nil, Nat.reduceBEq, Bool.or_true, Bool.or_false, if_true, Option.map_some, see_val, rd_0, M.ret_bind, M.bind_assoc]
        rw [bx0 hp]
        simp only [eqD_int, asB_bl, M.ret_bind, decide_eq_true h0, if_true]
        refine seq_app (ρ' := [some (.val (.bag p)), some (.val (.int m)), none, none, some (.val (.int 0)), none, none]) (b' := some g) (by rfl) |>.trans ?_
        refine seq_app ?_
        walk_at "ev"
        rw [bx2 hp, bx3 hp]
        walk_at "ev"
        simp only [List.length_map, decide_eq_true hc, if_true]
        rw [bx3 hp, bx2 hp, ixD_lst hc2]
        rfl
      · obtain ⟨s5, g', e, ho⟩ := take_cell (m := m) g hg (c := 0)
        refine ⟨some (.val (.int 0)), s5, g', ?_, ho⟩
        unfold F__law_take
        refine seq_app ?_
        rw [← e]
        simp only [ifM, t2, e2, cst, view_eq, viewAt_cons, viewAt_nil, List.contains_cons, List.contains_nil, Nat.reduceBEq, Bool.or_true, Bool.or_false, if_true, Option.map_some, see_val, rd_0, M.ret_bind, M.bind_assoc]
        rw [bx0 hp]
        simp only [eqD_int, asB_bl, M.ret_bind, decide_eq_true h0, if_true]
        refine seq_app (ρ' := [some (.val (.bag p)), some (.val (.int m)), none, none, some (.val (.int 0)), none, none]) (b' := some g) (by rfl) |>.trans ?_
        refine seq_app ?_
        walk_at "ev"
        rw [bx2 hp, bx3 hp]
        walk_at "ev"
        simp only [List.length_map, decide_eq_false hc, if_false, Bool.false_eq_true]
        rfl
    obtain ⟨s4, s5, g', e, ho⟩ := hh
    rw [bindF_app e]
    exact take_end h1 h2 g' ho
  · have e : F__law_take [some (.val (.bag p)), some (.val (.int m)), none, none, none, none, none] (some g) = takeTail [some (.val (.bag p)), some (.val (.int m)), none, none, none, none, none] (some g) := by
      unfold F__law_take
      refine seq_app ?_
      walk_at "ev"
      rw [bx0 hp]
      walk_at "ev"
      simp only [decide_eq_false h0, if_false, Bool.false_eq_true]
      rfl
    rw [bindF_app e]
    exact take_end h1 h2 g hg
theorem alike_same {d : D} (h : okA d = true) : R__law_alike [d, d] = M.ret (.bl true) := by
  obtain ⟨x, hx⟩ := reprF_ok h
  simp only [R__law_alike, F__law_alike]
  walk_at "ev"
  rw [eqD_same h]
  walk_at "ev"
  rw [hx]
  walk_at "ev"
  simp only [decide_true]
end LW
set_option Elab.async false
set_option maxRecDepth 100000
set_option autoImplicit false
set_option linter.unusedVariables false
set_option maxHeartbeats 4000000
namespace LW
open PySem L2 PySem.Spec PyProof.Rows DL
local macro_rules | `(tactic| walk_at "dis") => `(tactic| first | assumption | omega | (simp only [List.length_map, List.length_range, List.length_append, List.length_cons, List.length_nil, List.length_reverse, List.length_take, List.length_drop, List.length_replicate, List.length_singleton]; omega) | (simp; done))
local macro_rules | `(tactic| walk_at "ev") => `(tactic| try simp -implicitDefEqProofs -dsimp (disch := walk_at "dis") only [↓q_seq, ↓q_seqK_nx, ↓q_seqK_rt, ↓q_seqK_rn, ↓q_seqK_bk, ↓q_seqK_ct, ↓q_runD, ↓q_runN, q_runK_rt, q_runK_rn, q_runK_nx, q_runKN_rn, ↓q_set, ↓q_setN, ↓q_ret, ↓q_retN, ↓q_drop, ↓q_if, ↓q_unp, q_unpK, ↓q_par, q_parK, ↓q_app, q_appK, ↓q_aug, q_augK, q_addF_int, q_addF_str, q_guard, ↓q_for, ↓q_forR, q_loopK_nx, q_loopK_ct, q_loopK_bk, q_loopK_rt, q_loopK_rn, ↓q_sNil, ↓q_e2, ↓q_t2, ↓q_e1, ↓q_cst, ↓q_aN, ↓q_aC, ↓q_call, ↓q_callN, ↓q_eN, ↓q_nLst, q_lstK, ↓q_eTup, q_tupK, ↓q_tVal, ↓q_tNot, ↓q_tAnd, ↓q_tOr, ↓q_eAnd, ↓q_eOr, ↓q_eNot, ↓q_eIf, ↓q_iAny, ↓q_iRg1, ↓q_iRg2, ↓q_iEnum, ↓q_nLc, ↓q_cT, ↓q_oN, ↓q_oS, ↓q_eSl, ↓q_eChain, ↓q_tBl, ↓q_eMake, ↓q_eMeth, ↓q_nMeth, ↓q_n1M, ↓q_iSeq, q_selK, q_self, ↓q_iTwo, ↓q_iTwoS, q_two2s, q_two2, ↓q_ext, q_extK, ↓q_nLc2, q_count, q_inE, q_notInE, q_is_non, q_is_str, q_is_int, q_is_tup, q_is_lst, q_isnt_non, q_isnt_str, q_isnt_int, q_isnt_tup, q_isnt_lst, q_list_l, q_list_t, q_tuple_l, q_tuple_t, q_max2, q_min2, q_sum, q_ixF_s, q_ixF_l, q_ixF_t, q_ixF_b, q_inF_s, q_inF_l, q_inF_t, q_lenG_s, q_lenG_l, q_lenG_t, q_lenG_d, q_lenG_dt, ↓q_setD, ↓q_dput, q_dputK, q_keyI, q_keyS, q_seeT, q_toDv, q_toDl, q_toDk, q_toDt, q_toDs0, q_toDs1, q_toDsm, q_fls0, q_fls1, q_flv, q_fll, q_flk, q_flt, q_flsm, q_sloV, q_sloK, q_sloT, q_sloL, q_sloLl, ↓q_oV, ↓q_oL, ↓q_oC, ↓q_oaN, ↓q_oaC, ↓q_oLst, q_oLstK, ↓q_setO, ↓q_parO, q_parOK, ↓q_parO3, q_parO3K, ↓q_appAt, q_appAtK, q_appAtK2, q_flatS, q_flatI, q_flatS2, q_mapv0, q_sloL0, bnd_ret, bnd_assoc, bnd_assoc', bnd_r, cnd_t, cnd_f, cnd_bnd, fail_bnd, bind_bnd, str01, List.cons.injEq, and_true, decide_true, decide_false, cut_toN, cut_fromN, cut_from1N, cut_to1N, cut_to1, cut_to2, cut_to3, cut_from1, cut_toM1, cut_fromM1, DL.startD, List.map_cons, List.map_nil, List.length_cons, List.length_nil, Nat.reduceAdd, Nat.reduceSub, List.replicate, List.cons_append, List.nil_append, view_eq, viewAt_cons, viewAt_nil, List.contains_cons, List.contains_nil, Nat.reduceBEq, Bool.or_true, Bool.or_false, Bool.true_or, Bool.false_or, if_true, Bool.false_eq_true, if_false, Option.map_some, Option.map_none, see_val, see_own, rd_0, rd_1, rd_2, rd_3, rd_4, rd_5, rd_6, rd_7, rd_8, rd_9, rd_10, rd_11, rd_12, rd_13, rd_14, rd_15, rd_16, rd_17, rd_18, rd_19, rd_20, rd_21, rd_22, rd_23, rd_24, rd_25, rd_26, rd_27, rd_28, rd_29, rd_30, rd_31, rd_32, rd_33, rd_34, rd_35, rd_36, rd_37, rd_38, rd_39, rd_40, rd_41, rd_42, rd_43, rd_44, rd_45, Int.reduceToNat, flat_int, flat_str, flat_bl, flat_non, flat_bag, flat_lst, flat_tup, flat_obj, List.all_cons, List.all_nil, Bool.and_true, Bool.true_and, Bool.and_false, Bool.false_and, keepIf_t, keepIf_f, frz_eq, frzAt_cons, frzAt_nil, List.set_cons_succ, List.set_cons_zero, subD_int, addD_int, negD_int, asI_int, asB_bl, truD_bl, lenF_lst, lenF_tup, intF_int, intF_bl, absF_int, ltD_int, leD_int, gtD_int, geD_int, eqD_int, eqD_str, neD_int, neD_str, inD_str, notInD_str, slD_lst, slD_scr, revD_lst, itemsD_lst, itemsD_tup, itemsD_str, Bool.not_true, Bool.not_false, ixD_l, ixD_t, ofSome, atI_0, atI_1, atI_2, atI_3, atI_4, atI_app, slotD_obj, propD_obj, propN_obj, isC_obj, get0, get1, get2, get3, getS, bName_eq, bTup_eq, bCons_eq, bNil_eq, setAll2_cons, setAll2_nil, setAllD_cons, setAllD_nil, wipeD_cons, wipeD_nil, isi_str_str, isi_int_int, isi_bool_int, List.getElem?_cons_zero, List.getElem?_cons_succ, lenF_str, modD_int, divD_int, addD_str, addD_lst, slD_str, revD_str, ixD_str, ixD_str1, ixD_strmod, rng1_int, rng2_int, mulD_intl, mulD_intr, intF_dig])
local macro_rules | `(tactic| walk_at "evl") => `(tactic| try simp -implicitDefEqProofs -dsimp (disch := walk_at "dis") only [↓q_seq, ↓q_seqK_nx, ↓q_seqK_rt, ↓q_seqK_rn, ↓q_seqK_bk, ↓q_seqK_ct, ↓q_runD, ↓q_runN, q_runK_rt, q_runK_rn, q_runK_nx, q_runKN_rn, ↓q_set, ↓q_setN, ↓q_ret, ↓q_retN, ↓q_drop, ↓q_if, ↓q_unp, q_unpK, ↓q_par, q_parK, ↓q_app, q_appK, ↓q_aug, q_augK, q_addF_int, q_addF_str, q_guard, ↓q_for, ↓q_forR, q_loopK_nx, q_loopK_ct, q_loopK_bk, q_loopK_rt, q_loopK_rn, ↓q_sNil, ↓q_e2, ↓q_t2, ↓q_e1, ↓q_cst, ↓q_aN, ↓q_aC, ↓q_call, ↓q_callN, ↓q_eN, ↓q_nLst, q_lstK, ↓q_eTup, q_tupK, ↓q_tVal, ↓q_tNot, ↓q_tAnd, ↓q_tOr, ↓q_eAnd, ↓q_eOr, ↓q_eNot, ↓q_eIf, ↓q_iAny, ↓q_iRg1, ↓q_iRg2, ↓q_iEnum, ↓q_nLc, ↓q_cT, ↓q_oN, ↓q_oS, ↓q_eSl, ↓q_eChain, ↓q_tBl, ↓q_eMake, ↓q_eMeth, ↓q_nMeth, ↓q_n1M, ↓q_iSeq, q_selK, q_self, ↓q_iTwo, ↓q_iTwoS, q_two2s, q_two2, ↓q_ext, q_extK, ↓q_nLc2, q_count, q_inE, q_notInE, q_is_non, q_is_str, q_is_int, q_is_tup, q_is_lst, q_isnt_non, q_isnt_str, q_isnt_int, q_isnt_tup, q_isnt_lst, q_list_l, q_list_t, q_tuple_l, q_tuple_t, q_max2, q_min2, q_sum, q_ixF_s, q_ixF_l, q_ixF_t, q_ixF_b, q_inF_s, q_inF_l, q_inF_t, q_lenG_s, q_lenG_l, q_lenG_t, q_lenG_d, q_lenG_dt, ↓q_setD, ↓q_dput, q_dputK, q_keyI, q_keyS, q_seeT, q_toDv, q_toDl, q_toDk, q_toDt, q_toDs0, q_toDs1, q_toDsm, q_fls0, q_fls1, q_flv, q_fll, q_flk, q_flt, q_flsm, q_sloV, q_sloK, q_sloT, q_sloL, q_sloLl, ↓q_oV, ↓q_oL, ↓q_oC, ↓q_oaN, ↓q_oaC, ↓q_oLst, q_oLstK, ↓q_setO, ↓q_parO, q_parOK, ↓q_parO3, q_parO3K, ↓q_appAt, q_appAtK, q_appAtK2, q_flatS, q_flatI, q_flatS2, q_mapv0, q_sloL0, bnd_ret, bnd_assoc, bnd_assoc', bnd_r, cnd_t, cnd_f, cnd_bnd, fail_bnd, bind_bnd, str01, List.cons.injEq, and_true, decide_true, decide_false, cut_toN, cut_fromN, cut_from1N, cut_to1N, cut_to1, cut_to2, cut_to3, cut_from1, cut_toM1, cut_fromM1, DL.startD, List.map_cons, List.map_nil, List.length_cons, List.length_nil, Nat.reduceAdd, Nat.reduceSub, List.replicate, List.cons_append, List.nil_append, view_eq, viewAt_cons, viewAt_nil, List.contains_cons, List.contains_nil, Nat.reduceBEq, Bool.or_true, Bool.or_false, Bool.true_or, Bool.false_or, if_true, Bool.false_eq_true, if_false, Option.map_some, Option.map_none, see_val, see_own, rd_0, rd_1, rd_2, rd_3, rd_4, rd_5, rd_6, rd_7, rd_8, rd_9, rd_10, rd_11, rd_12, rd_13, rd_14, rd_15, rd_16, rd_17, rd_18, rd_19, rd_20, rd_21, rd_22, rd_23, rd_24, rd_25, rd_26, rd_27, rd_28, rd_29, rd_30, rd_31, rd_32, rd_33, rd_34, rd_35, rd_36, rd_37, rd_38, rd_39, rd_40, rd_41, rd_42, rd_43, rd_44, rd_45, Int.reduceToNat, flat_int, flat_str, flat_bl, flat_non, flat_bag, flat_lst, flat_tup, flat_obj, List.all_cons, List.all_nil, Bool.and_true, Bool.true_and, Bool.and_false, Bool.false_and, keepIf_t, keepIf_f, frz_eq, frzAt_cons, frzAt_nil, List.set_cons_succ, List.set_cons_zero, subD_int, addD_int, negD_int, asI_int, asB_bl, truD_bl, lenF_lst, lenF_tup, intF_int, intF_bl, absF_int, ltD_int, leD_int, gtD_int, geD_int, eqD_int, eqD_str, neD_int, neD_str, inD_str, notInD_str, slD_lst, slD_scr, revD_lst, itemsD_lst, itemsD_tup, itemsD_str, Bool.not_true, Bool.not_false, ixD_l, ixD_t, ofSome, atI_0, atI_1, atI_2, atI_3, atI_4, atI_app, slotD_obj, propD_obj, propN_obj, isC_obj, get0, get1, get2, get3, getS, bName_eq, bTup_eq, bCons_eq, bNil_eq, setAll2_cons, setAll2_nil, setAllD_cons, setAllD_nil, wipeD_cons, wipeD_nil, isi_str_str, isi_int_int, isi_bool_int, List.getElem?_cons_zero, List.getElem?_cons_succ, lenF_str, modD_int, divD_int, addD_str, addD_lst, slD_str, revD_str, ixD_str, ixD_str1, ixD_strmod, rng1_int, rng2_int, mulD_intl, mulD_intr, intF_dig, q_loop0, q_loopN, q_comp0, q_compT])
local macro_rules | `(tactic| walk_at "evc") => `(tactic| try simp -implicitDefEqProofs -dsimp (disch := walk_at "dis") only [↓q_seq, ↓q_seqK_nx, ↓q_seqK_rt, ↓q_seqK_rn, ↓q_seqK_bk, ↓q_seqK_ct, ↓q_runD, ↓q_runN, q_runK_rt, q_runK_rn, q_runK_nx, q_runKN_rn, ↓q_set, ↓q_setN, ↓q_ret, ↓q_retN, ↓q_drop, ↓q_if, ↓q_unp, q_unpK, ↓q_par, q_parK, ↓q_app, q_appK, ↓q_aug, q_augK, q_addF_int, q_addF_str, q_guard, ↓q_for, ↓q_forR, q_loopK_nx, q_loopK_ct, q_loopK_bk, q_loopK_rt, q_loopK_rn, ↓q_sNil, ↓q_e2, ↓q_t2, ↓q_e1, ↓q_cst, ↓q_aN, ↓q_aC, ↓q_call, ↓q_callN, ↓q_eN, ↓q_nLst, q_lstK, ↓q_eTup, q_tupK, ↓q_tVal, ↓q_tNot, ↓q_tAnd, ↓q_tOr, ↓q_eAnd, ↓q_eOr, ↓q_eNot, ↓q_eIf, ↓q_iAny, ↓q_iRg1, ↓q_iRg2, ↓q_iEnum, ↓q_nLc, ↓q_cT, ↓q_oN, ↓q_oS, ↓q_eSl, ↓q_eChain, ↓q_tBl, ↓q_eMake, ↓q_eMeth, ↓q_nMeth, ↓q_n1M, ↓q_iSeq, q_selK, q_self, ↓q_iTwo, ↓q_iTwoS, q_two2s, q_two2, ↓q_ext, q_extK, ↓q_nLc2, q_count, q_inE, q_notInE, q_is_non, q_is_str, q_is_int, q_is_tup, q_is_lst, q_isnt_non, q_isnt_str, q_isnt_int, q_isnt_tup, q_isnt_lst, q_list_l, q_list_t, q_tuple_l, q_tuple_t, q_max2, q_min2, q_sum, q_ixF_s, q_ixF_l, q_ixF_t, q_ixF_b, q_inF_s, q_inF_l, q_inF_t, q_lenG_s, q_lenG_l, q_lenG_t, q_lenG_d, q_lenG_dt, ↓q_setD, ↓q_dput, q_dputK, q_keyI, q_keyS, q_seeT, q_toDv, q_toDl, q_toDk, q_toDt, q_toDs0, q_toDs1, q_toDsm, q_fls0, q_fls1, q_flv, q_fll, q_flk, q_flt, q_flsm, q_sloV, q_sloK, q_sloT, q_sloL, q_sloLl, ↓q_oV, ↓q_oL, ↓q_oC, ↓q_oaN, ↓q_oaC, ↓q_oLst, q_oLstK, ↓q_setO, ↓q_parO, q_parOK, ↓q_parO3, q_parO3K, ↓q_appAt, q_appAtK, q_appAtK2, q_flatS, q_flatI, q_flatS2, q_mapv0, q_sloL0, bnd_ret, bnd_assoc, bnd_assoc', bnd_r, cnd_t, cnd_f, cnd_bnd, fail_bnd, bind_bnd, str01, List.cons.injEq, and_true, decide_true, decide_false, cut_toN, cut_fromN, cut_from1N, cut_to1N, cut_to1, cut_to2, cut_to3, cut_from1, cut_toM1, cut_fromM1, DL.startD, List.map_cons, List.map_nil, List.length_cons, List.length_nil, Nat.reduceAdd, Nat.reduceSub, List.replicate, List.cons_append, List.nil_append, view_eq, viewAt_cons, viewAt_nil, List.contains_cons, List.contains_nil, Nat.reduceBEq, Bool.or_true, Bool.or_false, Bool.true_or, Bool.false_or, if_true, Bool.false_eq_true, if_false, Option.map_some, Option.map_none, see_val, see_own, rd_0, rd_1, rd_2, rd_3, rd_4, rd_5, rd_6, rd_7, rd_8, rd_9, rd_10, rd_11, rd_12, rd_13, rd_14, rd_15, rd_16, rd_17, rd_18, rd_19, rd_20, rd_21, rd_22, rd_23, rd_24, rd_25, rd_26, rd_27, rd_28, rd_29, rd_30, rd_31, rd_32, rd_33, rd_34, rd_35, rd_36, rd_37, rd_38, rd_39, rd_40, rd_41, rd_42, rd_43, rd_44, rd_45, Int.reduceToNat, flat_int, flat_str, flat_bl, flat_non, flat_bag, flat_lst, flat_tup, flat_obj, List.all_cons, List.all_nil, Bool.and_true, Bool.true_and, Bool.and_false, Bool.false_and, keepIf_t, keepIf_f, frz_eq, frzAt_cons, frzAt_nil, List.set_cons_succ, List.set_cons_zero, subD_int, addD_int, negD_int, asI_int, asB_bl, truD_bl, lenF_lst, lenF_tup, intF_int, intF_bl, absF_int, ltD_int, leD_int, gtD_int, geD_int, eqD_int, eqD_str, neD_int, neD_str, inD_str, notInD_str, slD_lst, slD_scr, revD_lst, itemsD_lst, itemsD_tup, itemsD_str, Bool.not_true, Bool.not_false, ixD_l, ixD_t, ofSome, atI_0, atI_1, atI_2, atI_3, atI_4, atI_app, slotD_obj, propD_obj, propN_obj, isC_obj, get0, get1, get2, get3, getS, bName_eq, bTup_eq, bCons_eq, bNil_eq, setAll2_cons, setAll2_nil, setAllD_cons, setAllD_nil, wipeD_cons, wipeD_nil, isi_str_str, isi_int_int, isi_bool_int, List.getElem?_cons_zero, List.getElem?_cons_succ, lenF_str, modD_int, divD_int, addD_str, addD_lst, slD_str, revD_str, ixD_str, ixD_str1, ixD_strmod, rng1_int, rng2_int, mulD_intl, mulD_intr, intF_dig, q_comp0, q_compT])
local macro_rules | `(tactic| walk_at "env") => `(tactic| try simp -implicitDefEqProofs only [List.all_cons, List.all_nil, Bool.and_true, Bool.true_and, setAll2_cons, setAll2_nil, bName_eq, env0, List.replicate, flat_int, flat_str, flat_bl, flat_non, flat_bag, flat_lst, flat_tup, flat_obj, keepIf_t, keepIf_f, frz_eq, frzAt_cons, frzAt_nil, List.contains_cons, List.contains_nil, Nat.reduceBEq, Nat.reduceAdd, Bool.or_true, Bool.or_false, Bool.true_or, if_true, Bool.false_eq_true, if_false, Option.map_some, Option.map_none, see_val, see_own, List.set_cons_succ, List.set_cons_zero])
/-! _law_pick -/
def F__law_pick : Env2 → M Out :=
  (retM [0, 1] (e2 ixF (rdEnv 1) (eCall R__law_take (aC (rdEnv 0) (aC (eCall lenG (aC (rdEnv 1) aN)) aN)))))
def R__law_pick : List D → M D := runD 2 F__law_pick
/-! _law_rule -/
def F__law_rule : Env2 → M Out :=
  (seqM (setM 1 [0] (e2 joinF (cst (.str [])) (eN (nLc [2] (iRg1 (aC (cst (.int 4)) aN)) (bName 2) cT (e2 ixF (cst (.str [48, 49])) (eCall R__law_take (aC (rdEnv 0) (aC (cst (.int 2)) aN))))))))
  (retM [0, 1] (eTup (aC (e2 ixF (eN (nLst (aC (cst (.str [48, 49, 49, 49])) (aC (rdEnv 1) (aC (rdEnv 1) aN))))) (eCall R__law_take (aC (rdEnv 0) (aC (cst (.int 3)) aN)))) (aC (eCall R__law_take (aC (rdEnv 0) (aC (cst (.int 3)) aN))) aN)))))
def R__law_rule : List D → M D := runD 3 F__law_rule
/-! _law_text -/
def F__law_text : Env2 → M Out :=
  (seqM (setM 3 [1] (eSl (cst (.str [48, 49, 50, 51])) oN (oS (e2 addD (rdEnv 1) (cst (.int 2))))))
  (retM [0, 2, 3] (e2 joinF (cst (.str [])) (eN (nLc [4] (iRg1 (aC (e2 addD (cst (.int 1)) (eCall R__law_take (aC (rdEnv 0) (aC (rdEnv 2) aN)))) aN)) (bName 4) cT (e2 ixF (rdEnv 3) (eCall R__law_take (aC (rdEnv 0) (aC (eCall lenG (aC (rdEnv 3) aN)) aN)))))))))
def R__law_text : List D → M D := runD 5 F__law_text
/-! is_row -/
def F_is_row : Env2 → M Out :=
  (retM [0, 1, 2] (eAnd (e1 (isiD "str") (rdEnv 0)) (eCall allF (aC (eN (nLc [2] (iAny (rdEnv 0)) (bName 2) cT (e2 (inF false) (rdEnv 2) (rdEnv 1)))) aN))))
def R_is_row : List D → M D := runD 3 F_is_row
/-! is_table -/
def F_is_table : Env2 → M Out :=
  (retM [0] (eAnd (eCall R_is_row (aC (rdEnv 0) (aC (cst (.str [48, 49])) aN))) (e2 (eqD false) (eCall lenG (aC (rdEnv 0) aN)) (cst (.int 4)))))
def R_is_table : List D → M D := runD 1 F_is_table
/-! is_integer -/
def F_is_integer : Env2 → M Out :=
  (retM [0] (eAnd (e1 (isiD "int") (rdEnv 0)) (eNot (e1 (isiD "bool") (rdEnv 0)))))
def R_is_integer : List D → M D := runD 1 F_is_integer
/-! Rule___init__ -/
def F_Rule___init__ : Env2 → M (List D) :=
  (iSeq (ifM [1] (tNotM (tVal (eCall R_is_table (aC (rdEnv 1) aN))))
  (fun _ => M.fail)
  sNil)
  (iSeq (ifM [2] (tOrM (tNotM (tVal (eCall R_is_integer (aC (rdEnv 2) aN)))) (tNotM (tBl (eChain leD leD (cst (.int 0)) (rdEnv 2) (cst (.int 2))))))
  (fun _ => M.fail)
  sNil)
  (iTwoS [1, 2] (eTup (aC (rdEnv 1) (aC (rdEnv 2) aN))))))
/-! Rule_table -/
def F_Rule_table : Env2 → M Out :=
  (retM [0] (e1 (slotD 0 1) (rdEnv 0)))
def R_Rule_table : List D → M D := runD 1 F_Rule_table
/-! Rule_rests -/
def F_Rule_rests : Env2 → M Out :=
  (retM [0] (e1 (slotD 0 0) (rdEnv 0)))
def R_Rule_rests : List D → M D := runD 1 F_Rule_rests
/-! Rule_signs -/
def F_Rule_signs : Env2 → M Out :=
  (retM [0] (eSl (cst (.str [48, 49, 50, 51])) oN (oS (e2 addD (cst (.int 2)) (e1 (slotD 0 0) (rdEnv 0))))))
def R_Rule_signs : List D → M D := runD 1 F_Rule_signs
/-! sign_after -/
def F_sign_after : Env2 → M Out :=
  (seqM (ifM [3] (t2 (eqD false) (rdEnv 3) (cst (.str [48])))
  (retM [0, 2, 4] (e2 ixF (rdEnv 0) (e2 addD (e2 mulD (cst (.int 2)) (eCall intF (aC (e2 (eqD false) (rdEnv 2) (cst (.str [49]))) aN))) (eCall intF (aC (e2 (eqD false) (rdEnv 4) (cst (.str [49]))) aN)))))
  sNil)
  (retM [1, 3] (eIf (t2 (eqD false) (rdEnv 3) (rdEnv 1)) (cst (.str [48])) (e2 ixF (cst (.str [48, 49, 50, 51])) (e2 addD (eCall intF (aC (rdEnv 3) aN)) (cst (.int 1)))))))
def R_sign_after : List D → M D := runD 5 F_sign_after
/-! row_after_beat -/
def F_row_after_beat : Env2 → M Out :=
  (retM [0, 1, 2, 3] (e2 joinF (cst (.str [])) (eN (nLc [3] (iRg1 (aC (e2 subD (eCall lenG (aC (rdEnv 2) aN)) (cst (.int 2))) aN)) (bName 3) cT (eCall R_sign_after (aC (rdEnv 0) (aC (rdEnv 1) (aC (e2 ixF (rdEnv 2) (rdEnv 3)) (aC (e2 ixF (rdEnv 2) (e2 addD (rdEnv 3) (cst (.int 1)))) (aC (e2 ixF (rdEnv 2) (e2 addD (rdEnv 3) (cst (.int 2)))) aN))))))))))
def R_row_after_beat : List D → M D := runD 4 F_row_after_beat
/-! Rule_inner_after -/
def F_Rule_inner_after : Env2 → M Out :=
  (retM [0, 1] (eCall R_row_after_beat (aC (e1 (slotD 0 1) (rdEnv 0)) (aC (e2 ixF (e1 (propD 0 R_Rule_signs) (rdEnv 0)) (e1 negD (cst (.int 1)))) (aC (rdEnv 1) aN)))))
def R_Rule_inner_after : List D → M D := runD 2 F_Rule_inner_after
/-! Rule_ring_after -/
def F_Rule_ring_after : Env2 → M Out :=
  (retM [0, 1] (eCall R_row_after_beat (aC (e1 (slotD 0 1) (rdEnv 0)) (aC (e2 ixF (e1 (propD 0 R_Rule_signs) (rdEnv 0)) (e1 negD (cst (.int 1)))) (aC (e2 addD (e2 addD (e2 ixF (rdEnv 1) (e1 negD (cst (.int 1)))) (rdEnv 1)) (e2 ixF (rdEnv 1) (cst (.int 0)))) aN)))))
def R_Rule_ring_after : List D → M D := runD 2 F_Rule_ring_after
/-! ### signs, tables -/
def BinT (t : List Nat) : Prop := t.length = 4 ∧ ∀ c ∈ t, c = 48 ∨ c = 49
def Sg (r : Nat) (x : List Nat) : Prop := ∀ c ∈ x, 48 ≤ c ∧ c < 50 + r
def sgn (t : List Nat) (r a b c : Nat) : Nat := if b = 48 then t.getD (2 * (if a = 49 then 1 else 0) + (if c = 49 then 1 else 0)) 0 else if b = 49 + r then 48 else b + 1
def rowL (t : List Nat) (r : Nat) (x : List Nat) : List Nat := (List.range (x.length - 2)).map fun k => sgn t r (x.getD k 0) (x.getD (k + 1) 0) (x.getD (k + 2) 0)
def ringL (t : List Nat) (r : Nat) (x : List Nat) : List Nat := (List.range x.length).map fun k => sgn t r (x.getD ((k + (x.length - 1)) % x.length) 0) (x.getD k 0) (x.getD ((k + 1) % x.length) 0)
abbrev rul (t : List Nat) (r : Nat) : D := .obj 0 [.int (r : Int), .str t]
def sigs (r : Nat) : List Nat := [48, 49, 50, 51].take (r + 2)
theorem sigs_len {r : Nat} (h : r ≤ 2) : (sigs r).length = r + 2 := by simp [sigs]; omega
theorem sigs_get {r k : Nat} (h : r ≤ 2) (hk : k < r + 2) : (sigs r).getD k 0 = 48 + k := by
  have h1 : r = 0 ∨ r = 1 ∨ r = 2 := by omega
  have h2 : k = 0 ∨ k = 1 ∨ k = 2 ∨ k = 3 := by omega
  rcases h1 with rfl | rfl | rfl <;> rcases h2 with rfl | rfl | rfl | rfl <;> first | rfl | omega
theorem sigs_mem {r c : Nat} (h : r ≤ 2) : c ∈ sigs r ↔ 48 ≤ c ∧ c < 50 + r := by
  have : r = 0 ∨ r = 1 ∨ r = 2 := by omega
  rcases this with rfl | rfl | rfl <;> simp [sigs] <;> omega
theorem Sg.get {r : Nat} {x : List Nat} (h : Sg r x) {i : Nat} (hi : i < x.length) : 48 ≤ x.getD i 0 ∧ x.getD i 0 < 50 + r := by
  rw [List.getD_eq_getElem?_getD, List.getElem?_eq_getElem hi]
  exact h _ (List.getElem_mem hi)
theorem BinT.get {t : List Nat} (h : BinT t) {i : Nat} (hi : i < 4) : t.getD i 0 = 48 ∨ t.getD i 0 = 49 := by
  have hi' : i < t.length := by rw [h.1]; exact hi
  rw [List.getD_eq_getElem?_getD, List.getElem?_eq_getElem hi']
  exact h.2 _ (List.getElem_mem hi')
theorem rowL_len (t : List Nat) (r : Nat) (x : List Nat) : (rowL t r x).length = x.length - 2 := by simp [rowL]
theorem ringL_len (t : List Nat) (r : Nat) (x : List Nat) : (ringL t r x).length = x.length := by simp [ringL]
theorem sgn_sg {t : List Nat} {r a b c : Nat} (ht : BinT t) (hb : 48 ≤ b ∧ b < 50 + r) : 48 ≤ sgn t r a b c ∧ sgn t r a b c < 50 + r := by
  unfold sgn
  split
  · have := ht.get (i := 2 * (if a = 49 then 1 else 0) + (if c = 49 then 1 else 0)) (by split <;> split <;> omega)
    omega
  · split <;> omega
theorem ringL_sg {t : List Nat} {r : Nat} {x : List Nat} (ht : BinT t) (hx : Sg r x) : Sg r (ringL t r x) := by
  intro c hc
  unfold ringL at hc
  obtain ⟨k, hk, rfl⟩ := List.mem_map.mp hc
  exact sgn_sg ht (hx.get (by simpa using hk))
theorem rowL_sg {t : List Nat} {r : Nat} {x : List Nat} (ht : BinT t) (hx : Sg r x) : Sg r (rowL t r x) := by
  intro c hc
  unfold rowL at hc
  obtain ⟨k, hk, rfl⟩ := List.mem_map.mp hc
  have : k < x.length - 2 := by simpa using hk
  exact sgn_sg ht (hx.get (by omega))
theorem sgn_any {t : List Nat} {r a b c a' c' : Nat} (ha : (a = 49) = (a' = 49)) (hc : (c = 49) = (c' = 49)) : sgn t r a b c = sgn t r a' b c' := by
  unfold sgn
  simp only [ha, hc]
theorem wrap_get (x : List Nat) (k : Nat) (hk : k < x.length + 2) (h : 0 < x.length) : (x.getD (x.length - 1) 0 :: (x ++ [x.getD 0 0])).getD k 0 = x.getD ((k + (x.length - 1)) % x.length) 0 := by
  cases k with
  | zero => simp [Nat.mod_eq_of_lt (show x.length - 1 < x.length by omega)]
  | succ k =>
    have e : (k + 1 + (x.length - 1)) % x.length = k % x.length := by
      rw [show k + 1 + (x.length - 1) = k + x.length by omega, Nat.add_mod_right]
    rw [e]
    simp only [List.getD_eq_getElem?_getD, List.getElem?_cons_succ]
    by_cases hl : k < x.length
    · rw [List.getElem?_append_left hl, Nat.mod_eq_of_lt hl]
    · have : k = x.length := by omega
      subst this
      simp
theorem row_wrap (t : List Nat) (r : Nat) (x : List Nat) (h : 0 < x.length) : rowL t r (x.getD (x.length - 1) 0 :: (x ++ [x.getD 0 0])) = ringL t r x := by
  unfold rowL ringL
  have el : (x.getD (x.length - 1) 0 :: (x ++ [x.getD 0 0])).length - 2 = x.length := by simp
  rw [el]
  apply List.map_congr_left
  intro k hk
  have hk : k < x.length := by simpa using hk
  rw [wrap_get x k (by omega) h, wrap_get x (k + 1) (by omega) h, wrap_get x (k + 2) (by omega) h]
  rw [show k + 1 + (x.length - 1) = k + x.length by omega, Nat.add_mod_right, Nat.mod_eq_of_lt hk, show k + 2 + (x.length - 1) = k + 1 + x.length by omega, Nat.add_mod_right]
/-! ### draws -/
theorem pick_tot {p : Addr} {xs : List D} (h : xs ≠ []) (hz : xs.length < 100000) : Tot p (R__law_pick [.bag p, .lst xs]) (· ∈ xs) := by
  have hn : 0 < xs.length := List.length_pos_iff.mpr h
  simp only [R__law_pick, F__law_pick]
  walk_at "ev"
  refine (take_tot (m := xs.length) (by omega) (by omega)).bind ?_
  rintro d ⟨v, rfl, h0, h1⟩
  have hl : v.toNat < xs.length := by omega
  rw [q_ixF_l, ixD_lst (d := xs[v.toNat]) (by rw [atI_lt h0 h1, List.getElem?_eq_getElem hl])]
  walk_at "ev"
  exact Tot.ret (List.getElem_mem hl)
theorem pickS_tot {p : Addr} {x : List Nat} (h : x ≠ []) (hz : x.length < 100000) : Tot p (R__law_pick [.bag p, .str x]) fun d => ∃ c ∈ x, d = .str [c] := by
  have hn : 0 < x.length := List.length_pos_iff.mpr h
  simp only [R__law_pick, F__law_pick]
  walk_at "ev"
  refine (take_tot (m := x.length) (by omega) (by omega)).bind ?_
  rintro d ⟨v, rfl, h0, h1⟩
  have hl : v.toNat < x.length := by omega
  rw [q_ixF_s, ixD_str (by omega) h0 h1]
  walk_at "ev"
  refine Tot.ret ⟨_, ?_, rfl⟩
  rw [List.getD_eq_getElem?_getD, List.getElem?_eq_getElem hl]
  exact List.getElem_mem hl
theorem strs_of {P : Nat → Prop} : ∀ {ys : List D}, (∀ y ∈ ys, ∃ c, y = .str [c] ∧ P c) → ∃ cs : List Nat, ys = cs.map (fun c => D.str [c]) ∧ ∀ c ∈ cs, P c
  | [], _ => ⟨[], rfl, fun _ h => nomatch h⟩
  | y :: ys, hy => by
    obtain ⟨c, rfl, hc⟩ := hy y (by simp)
    obtain ⟨cs, rfl, hcs⟩ := strs_of (ys := ys) fun z hz => hy z (by simp [hz])
    exact ⟨c :: cs, rfl, fun z hz => by
      rcases List.mem_cons.mp hz with rfl | hz
      · exact hc
      · exact hcs z hz⟩
theorem text_tot {p : Addr} {r : Nat} {m : Int} (h1 : r ≤ 2) (h2 : 1 ≤ m) (h3 : m ≤ 100000) : Tot p (R__law_text [.bag p, .int (r : Int), .int m]) fun d => ∃ x, d = .str x ∧ 1 ≤ x.length ∧ (x.length : Int) ≤ m ∧ Sg r x := by
  have hsl : cutL [48, 49, 50, 51] none (some ((r : Int) + 2)) = sigs r := by
    rw [cut_to _ (by omega)]
    rfl
  have hl := sigs_len h1
  simp only [R__law_text, F__law_text]
  walk_at "ev"
  rw [hsl]
  refine (take_tot (by omega) (by omega)).bind ?_
  rintro d ⟨v, rfl, v0, v1⟩
  walk_at "ev"
  refine (compM_tot (P := fun d => ∃ c, d = .str [c] ∧ (48 ≤ c ∧ c < 50 + r)) ?_).bind ?_
  · intro x hx
    refine ⟨[(4, x)], rfl, rfl, ?_⟩
    walk_at "ev"
    refine (take_tot (by omega) (by omega)).bind ?_
    rintro d ⟨u, rfl, u0, u1⟩
    rw [q_ixF_s, ixD_str (by omega) u0 u1]
    refine Tot.ret ⟨_, rfl, ?_⟩
    rw [sigs_get h1 (by omega)]
    omega
  · rintro ys ⟨hl, hy⟩
    have hl' : ys.length = (1 + v).toNat := by simpa using hl
    obtain ⟨cs, rfl, hc⟩ := strs_of hy
    rw [List.length_map] at hl'
    walk_at "ev"
    rw [joinF_one (f := fun c => c) (by omega), List.map_id']
    walk_at "ev"
    exact Tot.ret ⟨cs, rfl, by omega, by omega, hc⟩
theorem rule_tot {p : Addr} : Tot p (R__law_rule [.bag p]) fun d => ∃ (t : List Nat) (r : Nat), d = .tup [.str t, .int (r : Int)] ∧ BinT t ∧ r ≤ 2 := by
  simp only [R__law_rule, F__law_rule]
  walk_at "ev"
  refine (compM_tot (P := fun d => ∃ c, d = .str [c] ∧ (c = 48 ∨ c = 49)) ?_).bind ?_
  · intro x hx
    refine ⟨[(2, x)], rfl, rfl, ?_⟩
    walk_at "ev"
    refine (take_tot (by omega) (by omega)).bind ?_
    rintro d ⟨u, rfl, u0, u1⟩
    rw [q_ixF_s, ixD_str (by simp) u0 (by simp; omega)]
    refine Tot.ret ⟨_, rfl, ?_⟩
    have : u = 0 ∨ u = 1 := by omega
    rcases this with rfl | rfl <;> simp
  · rintro ys ⟨hl, hy⟩
    obtain ⟨cs, rfl, hc⟩ := strs_of hy
    have hl' : cs.length = 4 := by simpa using hl
    walk_at "ev"
    rw [joinF_one (f := fun c => c) (by omega), List.map_id']
    walk_at "ev"
    refine (take_tot (by omega) (by omega)).bind ?_
    rintro d ⟨u, rfl, u0, u1⟩
    have : u = 0 ∨ u = 1 ∨ u = 2 := by omega
    have fin : ∀ t, BinT t → Tot p (M.bind (R__law_take [D.bag p, D.int 3]) fun x => M.ret (D.tup [D.str t, x])) fun d => ∃ (t : List Nat) (r : Nat), d = .tup [.str t, .int (r : Int)] ∧ BinT t ∧ r ≤ 2 := by
      intro t ht
      refine (take_tot (by omega) (by omega)).bind ?_
      rintro d ⟨w, rfl, w0, w1⟩
      exact Tot.ret ⟨t, w.toNat, by rw [Int.toNat_of_nonneg w0], ht, by omega⟩
    rcases this with rfl | rfl | rfl
    · walk_at "ev"
      exact fin _ ⟨rfl, by decide⟩
    · walk_at "ev"
      exact fin _ ⟨hl', hc⟩
    · walk_at "ev"
      exact fin _ ⟨hl', hc⟩
/-! ### kinds, rules -/
theorem allF_map {α : Type} (xs : List α) (f : α → Bool) : allF [.lst (xs.map fun a => D.bl (f a))] = M.ret (.bl (xs.all f)) := by
  show (match blsD (xs.map fun a => D.bl (f a)) with
    | some bs => M.ret (D.bl (bs.all id))
    | none => M.fail) = _
  rw [blsD_map]
  show M.ret (D.bl ((xs.map f).all id)) = _
  congr 2
  induction xs with
  | nil => rfl
  | cons a r ih => simp [ih]
theorem is_row_is (x s : List Nat) (hz : x.length ≤ 100000) : R_is_row [.str x, .str s] = M.ret (.bl (x.all fun c => decide (c ∈ s))) := by
  simp only [R_is_row, F_is_row]
  walk_at "ev"
  rw [compM_mapI (l := fun c => [(2, D.str [c])]) (y := fun c => D.bl (decide (c ∈ s))) (fun c hc => ⟨rfl, rfl, by walk_at "ev"⟩)]
  walk_at "ev"
  rw [allF_map]
  walk_at "ev"
theorem is_integer_is (i : Int) : R_is_integer [.int i] = M.ret (.bl true) := by
  simp only [R_is_integer, F_is_integer]
  walk_at "ev"
theorem is_table_is (x : List Nat) (hz : x.length ≤ 100000) : R_is_table [.str x] = M.ret (.bl (x.all (fun c => decide (c ∈ [48, 49])) && decide (x.length = 4))) := by
  simp only [R_is_table, F_is_table]
  walk_at "ev"
  rw [is_row_is x _ hz]
  walk_at "ev"
  cases h : x.all fun c => decide (c ∈ [48, 49])
  · rfl
  · walk_at "ev"
    by_cases hl : x.length = 4
    · rw [hl]; rfl
    · have h2 : ¬ ((x.length : Int) = 4) := by omega
      simp [hl, h2]
theorem binT_ok {t : List Nat} (h : BinT t) : (t.all fun c => decide (c ∈ [48, 49])) = true := by
  rw [List.all_eq_true]
  intro c hc
  rcases h.2 c hc with rfl | rfl <;> decide
theorem okTab_of {t : List Nat} : okTab t = true ↔ BinT t := by
  unfold okTab BinT
  rw [Bool.and_eq_true, List.all_eq_true, beq_iff_eq]
  refine and_congr_right fun _ => ⟨fun h c hc => ?_, fun h c hc => ?_⟩
  · have := h c hc
    unfold isBin at this
    simpa using this
  · unfold isBin
    simpa using h c hc
theorem init_Rule (x : Addr) (ds : List D) (b : Bs) (r : List D × Bs) (hl : ds.length = 2) (h : ruleI ds b = some r) : F_Rule___init__ (startD 3 (.bag x :: ds)) b = some r := by
  unfold ruleI at h
  split at h
  · rename_i t n
    obtain ⟨c, e⟩ := M.guard_some h
    rw [Bool.and_eq_true, Bool.and_eq_true] at c
    obtain ⟨c1, c2, c3⟩ := c
    have ht := okTab_of.mp c1
    have c2 := of_decide_eq_true c2
    have c3 := of_decide_eq_true c3
    have hl : t.length = 4 := ht.1
    rw [← e]
    have : F_Rule___init__ (startD 3 [.bag x, .str t, .int n]) = M.ret [.int n, .str t] := by
      simp only [F_Rule___init__]
      walk_at "ev"
      rw [is_table_is t (by omega), binT_ok ht]
      walk_at "ev"
      simp only [hl, decide_true]
      walk_at "ev"
      rw [is_integer_is]
      walk_at "ev"
      simp only [decide_eq_true c2]
      walk_at "ev"
      simp only [decide_eq_true c3]
      walk_at "ev"
    rw [this]
  · cases h
theorem make_rule {t : List Nat} {r : Nat} (ht : BinT t) (hr : r ≤ 2) : ruleI [.str t, .int (r : Int)] = M.ret [.int (r : Int), .str t] := by
  show M.guard _ _ = _
  rw [M.guard_of]
  rw [okTab_of.mpr ht, decide_eq_true (show (0 : Int) ≤ r by omega), decide_eq_true (show (r : Int) ≤ 2 by omega)]
  rfl
theorem rule_table (t : List Nat) (r : Nat) : R_Rule_table [rul t r] = M.ret (.str t) := by
  simp only [R_Rule_table, F_Rule_table]
  walk_at "ev"
theorem rule_rests (t : List Nat) (r : Nat) : R_Rule_rests [rul t r] = M.ret (.int (r : Int)) := by
  simp only [R_Rule_rests, F_Rule_rests]
  walk_at "ev"
theorem rule_signs (t : List Nat) (r : Nat) : R_Rule_signs [rul t r] = M.ret (.str (sigs r)) := by
  simp only [R_Rule_signs, F_Rule_signs]
  walk_at "ev"
  rw [cut_to _ (by omega)]
  rw [show ((2 : Int) + r).toNat = r + 2 by omega]
  rfl
theorem ite_b (p : Prop) [Decidable p] : (if decide p = true then (1 : Int) else 0) = if p then 1 else 0 := by
  by_cases h : p <;> simp [h]
theorem sign_after_is {t : List Nat} {r a b c : Nat} (ht : t.length = 4) (hr : r ≤ 2) (hb : 48 ≤ b ∧ b < 50 + r) : R_sign_after [.str t, .str [49 + r], .str [a], .str [b], .str [c]] = M.ret (.str [sgn t r a b c]) := by
  simp only [R_sign_after, F_sign_after]
  walk_at "ev"
  unfold sgn
  by_cases h : b = 48
  · rw [cnd_dt h, if_pos h]
    walk_at "ev"
    congr 3
    by_cases ha : a = 49 <;> by_cases hc : c = 49 <;> simp [ha, hc]
  · rw [cnd_df h, if_neg h]
    walk_at "ev"
    by_cases h2 : b = 49 + r
    · rw [cnd_dt h2, if_pos h2]
      walk_at "ev"
    · rw [cnd_df h2, if_neg h2]
      walk_at "ev"
      congr 3
      have : b = 49 ∨ b = 50 := by omega
      rcases this with rfl | rfl <;> rfl
theorem row_after_is {t : List Nat} {r : Nat} {x : List Nat} (ht : t.length = 4) (hr : r ≤ 2) (hz : x.length ≤ 100000) (hx : Sg r x) : R_row_after_beat [.str t, .str [49 + r], .str x] = M.ret (.str (rowL t r x)) := by
  simp only [R_row_after_beat, F_row_after_beat]
  walk_at "ev"
  rw [compM_mapI (l := fun (k : Nat) => [(3, D.int (0 + (k : Nat)))]) (y := fun (k : Nat) => D.str [sgn t r (x.getD k 0) (x.getD (k + 1) 0) (x.getD (k + 2) 0)]) (fun k hk => ⟨rfl, rfl, ?_⟩)]
  · walk_at "ev"
    rw [joinF_one (by simp; omega)]
    walk_at "ev"
    unfold rowL
    rw [show ((x.length : Int) - 2).toNat = x.length - 2 by omega]
  · have hk : k < x.length - 2 := by
      have := List.mem_range.mp hk
      omega
    walk_at "ev"
    rw [show (0 + (k : Int)).toNat = k by omega, show (0 + (k : Int) + 1).toNat = k + 1 by omega, show (0 + (k : Int) + 2).toNat = k + 2 by omega]
    exact sign_after_is ht hr (hx.get (by omega))
theorem last_sign {r : Nat} (hr : r ≤ 2) : (sigs r).getD ((sigs r).length - 1) 0 = 49 + r := by
  rw [sigs_get hr (by rw [sigs_len hr]; omega), sigs_len hr]
  omega
theorem inner_after_is {t : List Nat} {r : Nat} {x : List Nat} (ht : t.length = 4) (hr : r ≤ 2) (hz : x.length ≤ 100000) (hx : Sg r x) : R_Rule_inner_after [rul t r, .str x] = M.ret (.str (rowL t r x)) := by
  have hl := sigs_len hr
  simp only [R_Rule_inner_after, F_Rule_inner_after]
  walk_at "ev"
  rw [rule_signs]
  walk_at "ev"
  rw [last_sign hr, row_after_is ht hr hz hx]
  walk_at "ev"
theorem ring_after_is {t : List Nat} {r : Nat} {x : List Nat} (ht : t.length = 4) (hr : r ≤ 2) (h0 : 0 < x.length) (hz : x.length ≤ 10000) (hx : Sg r x) : R_Rule_ring_after [rul t r, .str x] = M.ret (.str (ringL t r x)) := by
  have hl := sigs_len hr
  simp only [R_Rule_ring_after, F_Rule_ring_after]
  walk_at "ev"
  rw [rule_signs]
  walk_at "ev"
  rw [last_sign hr, row_after_is ht hr (by simp; omega), row_wrap t r x h0]
  walk_at "ev"
  intro c hc
  simp at hc
  rcases hc with rfl | hc | rfl
  · exact hx.get (by omega)
  · exact hx c hc
  · exact hx.get (by omega)
end LW
set_option Elab.async false
set_option maxRecDepth 100000
set_option autoImplicit false
set_option linter.unusedVariables false
set_option maxHeartbeats 4000000
namespace LW
open PySem L2 PySem.Spec PyProof.Rows DL
local macro_rules | `(tactic| walk_at "dis") => `(tactic| first | assumption | omega | (simp only [List.length_map, List.length_range, List.length_append, List.length_cons, List.length_nil, List.length_reverse, List.length_take, List.length_drop, List.length_replicate, List.length_singleton]; omega) | (simp; done))
local macro_rules | `(tactic| walk_at "ev") => `(tactic| try simp -implicitDefEqProofs -dsimp (disch := walk_at "dis") only [↓q_seq, ↓q_seqK_nx, ↓q_seqK_rt, ↓q_seqK_rn, ↓q_seqK_bk, ↓q_seqK_ct, ↓q_runD, ↓q_runN, q_runK_rt, q_runK_rn, q_runK_nx, q_runKN_rn, ↓q_set, ↓q_setN, ↓q_ret, ↓q_retN, ↓q_drop, ↓q_if, ↓q_unp, q_unpK, ↓q_par, q_parK, ↓q_app, q_appK, ↓q_aug, q_augK, q_addF_int, q_addF_str, q_guard, ↓q_for, ↓q_forR, q_loopK_nx, q_loopK_ct, q_loopK_bk, q_loopK_rt, q_loopK_rn, ↓q_sNil, ↓q_e2, ↓q_t2, ↓q_e1, ↓q_cst, ↓q_aN, ↓q_aC, ↓q_call, ↓q_callN, ↓q_eN, ↓q_nLst, q_lstK, ↓q_eTup, q_tupK, ↓q_tVal, ↓q_tNot, ↓q_tAnd, ↓q_tOr, ↓q_eAnd, ↓q_eOr, ↓q_eNot, ↓q_eIf, ↓q_iAny, ↓q_iRg1, ↓q_iRg2, ↓q_iEnum, ↓q_nLc, ↓q_cT, ↓q_oN, ↓q_oS, ↓q_eSl, ↓q_eChain, ↓q_tBl, ↓q_eMake, ↓q_eMeth, ↓q_nMeth, ↓q_n1M, ↓q_iSeq, q_selK, q_self, ↓q_iTwo, ↓q_iTwoS, q_two2s, q_two2, ↓q_ext, q_extK, ↓q_nLc2, q_count, q_inE, q_notInE, q_is_non, q_is_str, q_is_int, q_is_tup, q_is_lst, q_isnt_non, q_isnt_str, q_isnt_int, q_isnt_tup, q_isnt_lst, q_list_l, q_list_t, q_tuple_l, q_tuple_t, q_max2, q_min2, q_sum, q_ixF_s, q_ixF_l, q_ixF_t, q_ixF_b, q_inF_s, q_inF_l, q_inF_t, q_lenG_s, q_lenG_l, q_lenG_t, q_lenG_d, q_lenG_dt, ↓q_setD, ↓q_dput, q_dputK, q_keyI, q_keyS, q_seeT, q_toDv, q_toDl, q_toDk, q_toDt, q_toDs0, q_toDs1, q_toDsm, q_fls0, q_fls1, q_flv, q_fll, q_flk, q_flt, q_flsm, q_sloV, q_sloK, q_sloT, q_sloL, q_sloLl, ↓q_oV, ↓q_oL, ↓q_oC, ↓q_oaN, ↓q_oaC, ↓q_oLst, q_oLstK, ↓q_setO, ↓q_parO, q_parOK, ↓q_parO3, q_parO3K, ↓q_appAt, q_appAtK, q_appAtK2, q_flatS, q_flatI, q_flatS2, q_mapv0, q_sloL0, bnd_ret, bnd_assoc, bnd_assoc', bnd_r, cnd_t, cnd_f, cnd_bnd, fail_bnd, bind_bnd, str01, List.cons.injEq, and_true, decide_true, decide_false, cut_toN, cut_fromN, cut_from1N, cut_to1N, cut_to1, cut_to2, cut_to3, cut_from1, cut_toM1, cut_fromM1, DL.startD, List.map_cons, List.map_nil, List.length_cons, List.length_nil, Nat.reduceAdd, Nat.reduceSub, List.replicate, List.cons_append, List.nil_append, view_eq, viewAt_cons, viewAt_nil, List.contains_cons, List.contains_nil, Nat.reduceBEq, Bool.or_true, Bool.or_false, Bool.true_or, Bool.false_or, if_true, Bool.false_eq_true, if_false, Option.map_some, Option.map_none, see_val, see_own, rd_0, rd_1, rd_2, rd_3, rd_4, rd_5, rd_6, rd_7, rd_8, rd_9, rd_10, rd_11, rd_12, rd_13, rd_14, rd_15, rd_16, rd_17, rd_18, rd_19, rd_20, rd_21, rd_22, rd_23, rd_24, rd_25, rd_26, rd_27, rd_28, rd_29, rd_30, rd_31, rd_32, rd_33, rd_34, rd_35, rd_36, rd_37, rd_38, rd_39, rd_40, rd_41, rd_42, rd_43, rd_44, rd_45, Int.reduceToNat, flat_int, flat_str, flat_bl, flat_non, flat_bag, flat_lst, flat_tup, flat_obj, List.all_cons, List.all_nil, Bool.and_true, Bool.true_and, Bool.and_false, Bool.false_and, keepIf_t, keepIf_f, frz_eq, frzAt_cons, frzAt_nil, List.set_cons_succ, List.set_cons_zero, subD_int, addD_int, negD_int, asI_int, asB_bl, truD_bl, lenF_lst, lenF_tup, intF_int, intF_bl, absF_int, ltD_int, leD_int, gtD_int, geD_int, eqD_int, eqD_str, neD_int, neD_str, inD_str, notInD_str, slD_lst, slD_scr, revD_lst, itemsD_lst, itemsD_tup, itemsD_str, Bool.not_true, Bool.not_false, ixD_l, ixD_t, ofSome, atI_0, atI_1, atI_2, atI_3, atI_4, atI_app, slotD_obj, propD_obj, propN_obj, isC_obj, get0, get1, get2, get3, getS, bName_eq, bTup_eq, bCons_eq, bNil_eq, setAll2_cons, setAll2_nil, setAllD_cons, setAllD_nil, wipeD_cons, wipeD_nil, isi_str_str, isi_int_int, isi_bool_int, List.getElem?_cons_zero, List.getElem?_cons_succ, lenF_str, modD_int, divD_int, addD_str, addD_lst, slD_str, revD_str, ixD_str, ixD_str1, ixD_strmod, rng1_int, rng2_int, mulD_intl, mulD_intr, intF_dig])
local macro_rules | `(tactic| walk_at "evl") => `(tactic| try simp -implicitDefEqProofs -dsimp (disch := walk_at "dis") only [↓q_seq, ↓q_seqK_nx, ↓q_seqK_rt, ↓q_seqK_rn, ↓q_seqK_bk, ↓q_seqK_ct, ↓q_runD, ↓q_runN, q_runK_rt, q_runK_rn, q_runK_nx, q_runKN_rn, ↓q_set, ↓q_setN, ↓q_ret, ↓q_retN, ↓q_drop, ↓q_if, ↓q_unp, q_unpK, ↓q_par, q_parK, ↓q_app, q_appK, ↓q_aug, q_augK, q_addF_int, q_addF_str, q_guard, ↓q_for, ↓q_forR, q_loopK_nx, q_loopK_ct, q_loopK_bk, q_loopK_rt, q_loopK_rn, ↓q_sNil, ↓q_e2, ↓q_t2, ↓q_e1, ↓q_cst, ↓q_aN, ↓q_aC, ↓q_call, ↓q_callN, ↓q_eN, ↓q_nLst, q_lstK, ↓q_eTup, q_tupK, ↓q_tVal, ↓q_tNot, ↓q_tAnd, ↓q_tOr, ↓q_eAnd, ↓q_eOr, ↓q_eNot, ↓q_eIf, ↓q_iAny, ↓q_iRg1, ↓q_iRg2, ↓q_iEnum, ↓q_nLc, ↓q_cT, ↓q_oN, ↓q_oS, ↓q_eSl, ↓q_eChain, ↓q_tBl, ↓q_eMake, ↓q_eMeth, ↓q_nMeth, ↓q_n1M, ↓q_iSeq, q_selK, q_self, ↓q_iTwo, ↓q_iTwoS, q_two2s, q_two2, ↓q_ext, q_extK, ↓q_nLc2, q_count, q_inE, q_notInE, q_is_non, q_is_str, q_is_int, q_is_tup, q_is_lst, q_isnt_non, q_isnt_str, q_isnt_int, q_isnt_tup, q_isnt_lst, q_list_l, q_list_t, q_tuple_l, q_tuple_t, q_max2, q_min2, q_sum, q_ixF_s, q_ixF_l, q_ixF_t, q_ixF_b, q_inF_s, q_inF_l, q_inF_t, q_lenG_s, q_lenG_l, q_lenG_t, q_lenG_d, q_lenG_dt, ↓q_setD, ↓q_dput, q_dputK, q_keyI, q_keyS, q_seeT, q_toDv, q_toDl, q_toDk, q_toDt, q_toDs0, q_toDs1, q_toDsm, q_fls0, q_fls1, q_flv, q_fll, q_flk, q_flt, q_flsm, q_sloV, q_sloK, q_sloT, q_sloL, q_sloLl, ↓q_oV, ↓q_oL, ↓q_oC, ↓q_oaN, ↓q_oaC, ↓q_oLst, q_oLstK, ↓q_setO, ↓q_parO, q_parOK, ↓q_parO3, q_parO3K, ↓q_appAt, q_appAtK, q_appAtK2, q_flatS, q_flatI, q_flatS2, q_mapv0, q_sloL0, bnd_ret, bnd_assoc, bnd_assoc', bnd_r, cnd_t, cnd_f, cnd_bnd, fail_bnd, bind_bnd, str01, List.cons.injEq, and_true, decide_true, decide_false, cut_toN, cut_fromN, cut_from1N, cut_to1N, cut_to1, cut_to2, cut_to3, cut_from1, cut_toM1, cut_fromM1, DL.startD, List.map_cons, List.map_nil, List.length_cons, List.length_nil, Nat.reduceAdd, Nat.reduceSub, List.replicate, List.cons_append, List.nil_append, view_eq, viewAt_cons, viewAt_nil, List.contains_cons, List.contains_nil, Nat.reduceBEq, Bool.or_true, Bool.or_false, Bool.true_or, Bool.false_or, if_true, Bool.false_eq_true, if_false, Option.map_some, Option.map_none, see_val, see_own, rd_0, rd_1, rd_2, rd_3, rd_4, rd_5, rd_6, rd_7, rd_8, rd_9, rd_10, rd_11, rd_12, rd_13, rd_14, rd_15, rd_16, rd_17, rd_18, rd_19, rd_20, rd_21, rd_22, rd_23, rd_24, rd_25, rd_26, rd_27, rd_28, rd_29, rd_30, rd_31, rd_32, rd_33, rd_34, rd_35, rd_36, rd_37, rd_38, rd_39, rd_40, rd_41, rd_42, rd_43, rd_44, rd_45, Int.reduceToNat, flat_int, flat_str, flat_bl, flat_non, flat_bag, flat_lst, flat_tup, flat_obj, List.all_cons, List.all_nil, Bool.and_true, Bool.true_and, Bool.and_false, Bool.false_and, keepIf_t, keepIf_f, frz_eq, frzAt_cons, frzAt_nil, List.set_cons_succ, List.set_cons_zero, subD_int, addD_int, negD_int, asI_int, asB_bl, truD_bl, lenF_lst, lenF_tup, intF_int, intF_bl, absF_int, ltD_int, leD_int, gtD_int, geD_int, eqD_int, eqD_str, neD_int, neD_str, inD_str, notInD_str, slD_lst, slD_scr, revD_lst, itemsD_lst, itemsD_tup, itemsD_str, Bool.not_true, Bool.not_false, ixD_l, ixD_t, ofSome, atI_0, atI_1, atI_2, atI_3, atI_4, atI_app, slotD_obj, propD_obj, propN_obj, isC_obj, get0, get1, get2, get3, getS, bName_eq, bTup_eq, bCons_eq, bNil_eq, setAll2_cons, setAll2_nil, setAllD_cons, setAllD_nil, wipeD_cons, wipeD_nil, isi_str_str, isi_int_int, isi_bool_int, List.getElem?_cons_zero, List.getElem?_cons_succ, lenF_str, modD_int, divD_int, addD_str, addD_lst, slD_str, revD_str, ixD_str, ixD_str1, ixD_strmod, rng1_int, rng2_int, mulD_intl, mulD_intr, intF_dig, q_loop0, q_loopN, q_comp0, q_compT])
local macro_rules | `(tactic| walk_at "evc") => `(tactic| try simp -implicitDefEqProofs -dsimp (disch := walk_at "dis") only [↓q_seq, ↓q_seqK_nx, ↓q_seqK_rt, ↓q_seqK_rn, ↓q_seqK_bk, ↓q_seqK_ct, ↓q_runD, ↓q_runN, q_runK_rt, q_runK_rn, q_runK_nx, q_runKN_rn, ↓q_set, ↓q_setN, ↓q_ret, ↓q_retN, ↓q_drop, ↓q_if, ↓q_unp, q_unpK, ↓q_par, q_parK, ↓q_app, q_appK, ↓q_aug, q_augK, q_addF_int, q_addF_str, q_guard, ↓q_for, ↓q_forR, q_loopK_nx, q_loopK_ct, q_loopK_bk, q_loopK_rt, q_loopK_rn, ↓q_sNil, ↓q_e2, ↓q_t2, ↓q_e1, ↓q_cst, ↓q_aN, ↓q_aC, ↓q_call, ↓q_callN, ↓q_eN, ↓q_nLst, q_lstK, ↓q_eTup, q_tupK, ↓q_tVal, ↓q_tNot, ↓q_tAnd, ↓q_tOr, ↓q_eAnd, ↓q_eOr, ↓q_eNot, ↓q_eIf, ↓q_iAny, ↓q_iRg1, ↓q_iRg2, ↓q_iEnum, ↓q_nLc, ↓q_cT, ↓q_oN, ↓q_oS, ↓q_eSl, ↓q_eChain, ↓q_tBl, ↓q_eMake, ↓q_eMeth, ↓q_nMeth, ↓q_n1M, ↓q_iSeq, q_selK, q_self, ↓q_iTwo, ↓q_iTwoS, q_two2s, q_two2, ↓q_ext, q_extK, ↓q_nLc2, q_count, q_inE, q_notInE, q_is_non, q_is_str, q_is_int, q_is_tup, q_is_lst, q_isnt_non, q_isnt_str, q_isnt_int, q_isnt_tup, q_isnt_lst, q_list_l, q_list_t, q_tuple_l, q_tuple_t, q_max2, q_min2, q_sum, q_ixF_s, q_ixF_l, q_ixF_t, q_ixF_b, q_inF_s, q_inF_l, q_inF_t, q_lenG_s, q_lenG_l, q_lenG_t, q_lenG_d, q_lenG_dt, ↓q_setD, ↓q_dput, q_dputK, q_keyI, q_keyS, q_seeT, q_toDv, q_toDl, q_toDk, q_toDt, q_toDs0, q_toDs1, q_toDsm, q_fls0, q_fls1, q_flv, q_fll, q_flk, q_flt, q_flsm, q_sloV, q_sloK, q_sloT, q_sloL, q_sloLl, ↓q_oV, ↓q_oL, ↓q_oC, ↓q_oaN, ↓q_oaC, ↓q_oLst, q_oLstK, ↓q_setO, ↓q_parO, q_parOK, ↓q_parO3, q_parO3K, ↓q_appAt, q_appAtK, q_appAtK2, q_flatS, q_flatI, q_flatS2, q_mapv0, q_sloL0, bnd_ret, bnd_assoc, bnd_assoc', bnd_r, cnd_t, cnd_f, cnd_bnd, fail_bnd, bind_bnd, str01, List.cons.injEq, and_true, decide_true, decide_false, cut_toN, cut_fromN, cut_from1N, cut_to1N, cut_to1, cut_to2, cut_to3, cut_from1, cut_toM1, cut_fromM1, DL.startD, List.map_cons, List.map_nil, List.length_cons, List.length_nil, Nat.reduceAdd, Nat.reduceSub, List.replicate, List.cons_append, List.nil_append, view_eq, viewAt_cons, viewAt_nil, List.contains_cons, List.contains_nil, Nat.reduceBEq, Bool.or_true, Bool.or_false, Bool.true_or, Bool.false_or, if_true, Bool.false_eq_true, if_false, Option.map_some, Option.map_none, see_val, see_own, rd_0, rd_1, rd_2, rd_3, rd_4, rd_5, rd_6, rd_7, rd_8, rd_9, rd_10, rd_11, rd_12, rd_13, rd_14, rd_15, rd_16, rd_17, rd_18, rd_19, rd_20, rd_21, rd_22, rd_23, rd_24, rd_25, rd_26, rd_27, rd_28, rd_29, rd_30, rd_31, rd_32, rd_33, rd_34, rd_35, rd_36, rd_37, rd_38, rd_39, rd_40, rd_41, rd_42, rd_43, rd_44, rd_45, Int.reduceToNat, flat_int, flat_str, flat_bl, flat_non, flat_bag, flat_lst, flat_tup, flat_obj, List.all_cons, List.all_nil, Bool.and_true, Bool.true_and, Bool.and_false, Bool.false_and, keepIf_t, keepIf_f, frz_eq, frzAt_cons, frzAt_nil, List.set_cons_succ, List.set_cons_zero, subD_int, addD_int, negD_int, asI_int, asB_bl, truD_bl, lenF_lst, lenF_tup, intF_int, intF_bl, absF_int, ltD_int, leD_int, gtD_int, geD_int, eqD_int, eqD_str, neD_int, neD_str, inD_str, notInD_str, slD_lst, slD_scr, revD_lst, itemsD_lst, itemsD_tup, itemsD_str, Bool.not_true, Bool.not_false, ixD_l, ixD_t, ofSome, atI_0, atI_1, atI_2, atI_3, atI_4, atI_app, slotD_obj, propD_obj, propN_obj, isC_obj, get0, get1, get2, get3, getS, bName_eq, bTup_eq, bCons_eq, bNil_eq, setAll2_cons, setAll2_nil, setAllD_cons, setAllD_nil, wipeD_cons, wipeD_nil, isi_str_str, isi_int_int, isi_bool_int, List.getElem?_cons_zero, List.getElem?_cons_succ, lenF_str, modD_int, divD_int, addD_str, addD_lst, slD_str, revD_str, ixD_str, ixD_str1, ixD_strmod, rng1_int, rng2_int, mulD_intl, mulD_intr, intF_dig, q_comp0, q_compT])
local macro_rules | `(tactic| walk_at "env") => `(tactic| try simp -implicitDefEqProofs only [List.all_cons, List.all_nil, Bool.and_true, Bool.true_and, setAll2_cons, setAll2_nil, bName_eq, env0, List.replicate, flat_int, flat_str, flat_bl, flat_non, flat_bag, flat_lst, flat_tup, flat_obj, keepIf_t, keepIf_f, frz_eq, frzAt_cons, frzAt_nil, List.contains_cons, List.contains_nil, Nat.reduceBEq, Nat.reduceAdd, Bool.or_true, Bool.or_false, Bool.true_or, if_true, Bool.false_eq_true, if_false, Option.map_some, Option.map_none, see_val, see_own, List.set_cons_succ, List.set_cons_zero])
/-! _law_beat -/
def F__law_beat : Env2 → M Out :=
  (seqM (unpM (bTup 2 (bCons (bName 3) (bCons (bName 4) bNil))) [0] (rdEnv 0))
  (seqM (setM 2 [] (cst (.str [])))
  (seqM (forA [1] (iEnumM (aC (rdEnv 1) aN)) (bTup 2 (bCons (bName 5) (bCons (bName 6) bNil)))
  (seqM (setNM 7 [1, 5] (nLst (aC (e2 ixF (rdEnv 1) (e2 subD (rdEnv 5) (cst (.int 1)))) (aC (e2 ixF (rdEnv 1) (e2 modD (eCall intF (aC (e2 addD (rdEnv 5) (cst (.int 1))) aN)) (eCall lenG (aC (rdEnv 1) aN)))) aN))))
  (ifM [6] (t2 (eqD false) (rdEnv 6) (cst (.str [48])))
  (setM 2 [2, 3, 7, 8] (e2 addD (rdEnv 2) (e2 ixF (rdEnv 3) (eCall binF (aC (e2 joinF (cst (.str [])) (eN (nLc [8] (iAny (rdEnv 7)) (bName 8) cT (eCall strF (aC (eCall intF (aC (e2 (eqD false) (rdEnv 8) (cst (.str [49]))) aN)) aN))))) (aC (cst (.int 2)) aN))))))
  (setM 2 [2, 4, 6] (e2 addD (rdEnv 2) (e2 ixF (cst (.str [48, 49, 50, 51])) (e2 modD (eCall intF (aC (e2 addD (eCall intF (aC (rdEnv 6) aN)) (cst (.int 1))) aN)) (e2 addD (rdEnv 4) (cst (.int 2))))))))))
  (retM [2] (rdEnv 2)))))
def R__law_beat : List D → M D := runD 9 F__law_beat
/-! _law_inner -/
def F__law_inner : Env2 → M Out :=
  (retM [0, 1] (eIf (t2 gtD (eCall lenG (aC (rdEnv 1) aN)) (cst (.int 2))) (eSl (eCall R__law_beat (aC (rdEnv 0) (aC (rdEnv 1) aN))) (oS (cst (.int 1))) (oS (e1 negD (cst (.int 1))))) (cst (.str []))))
def R__law_inner : List D → M D := runD 2 F__law_inner
def ringAt (t : List Nat) (r : Nat) (x : List Nat) (k : Nat) : Nat := sgn t r (x.getD ((k + (x.length - 1)) % x.length) 0) (x.getD k 0) (x.getD ((k + 1) % x.length) 0)
theorem ringL_at (t : List Nat) (r : Nat) (x : List Nat) : ringL t r x = (List.range x.length).map (ringAt t r x) := rfl
theorem pairs_str (x : List Nat) : pairsD (x.map fun c => D.str [c]) = (List.range x.length).map fun (k : Nat) => D.tup [.int (k : Int), .str [x.getD k 0]] := by
  apply List.ext_getElem
  · simp [pairsD]
  · intro i h1 h2
    simp only [pairsD, List.getElem_zipWith, List.getElem_range, List.getElem_map]
    congr 4
    have : i < x.length := by simpa using h2
    simp [List.getD, List.getElem?_eq_getElem this]
theorem enumD_str (x : List Nat) : enumD [.str x] = M.ret ((List.range x.length).map fun (k : Nat) => D.tup [.int (k : Int), .str [x.getD k 0]]) := by
  rw [← pairs_str]; rfl
theorem back_mod {k n : Nat} (h : k < n) : (((k : Int) - 1) % (n : Int)).toNat = (k + (n - 1)) % n := by
  cases k with
  | zero =>
    have e : ((0 : Nat) : Int) - 1 = (n - 1 : Int) + (-1) * n := by omega
    rw [e, Int.add_mul_emod_self_right, Int.emod_eq_of_lt (by omega) (by omega), Nat.mod_eq_of_lt (by omega)]
    omega
  | succ k =>
    rw [show (((k + 1 : Nat) : Int) - 1) = (k : Int) by omega, show k + 1 + (n - 1) = k + n by omega, Nat.add_mod_right, Nat.mod_eq_of_lt (by omega), Int.emod_eq_of_lt (by omega) (by omega)]
    omega
theorem fore_mod {k n : Nat} : (((k : Int) + 1) % (n : Int)).toNat = (k + 1) % n := by
  rw [show (k : Int) + 1 = ((k + 1 : Nat) : Int) by omega, ← Int.natCast_emod]
  omega
theorem law_beat_is {t : List Nat} {r : Nat} {x : List Nat} (ht : BinT t) (hr : r ≤ 2) (hz : x.length ≤ 10000) (hx : Sg r x) : R__law_beat [.tup [.str t, .int (r : Int)], .str x] = M.ret (.str (ringL t r x)) := by
  have hl : t.length = 4 := ht.1
  simp only [R__law_beat, F__law_beat]
  walk_at "ev"
  rw [enumD_str]
  walk_at "ev"
  refine Ev.eq (ev_loop (fun i ρ => ∃ s5 s6 s7 s8, ρ = [some (.val (.tup [.str t, .int (r : Int)])), some (.val (.str x)), some (.val (.str ((List.range i).map (ringAt t r x)))), some (.val (.str t)), some (.val (.int (r : Int))), s5, s6, s7, s8]) ⟨_, _, _, _, rfl⟩ ?_ ?_)
  · rintro k d ρ hk ⟨s5, s6, s7, s8, rfl⟩
    obtain ⟨hi, rfl⟩ := get_rmap hk
    have hg := hx.get hi
    refine ⟨[(5, .int (k : Int)), (6, .str [x.getD k 0])], rfl, ?_⟩
    walk_at "ev"
    rw [ixD_strm (by omega) (by omega) (by omega), back_mod hi]
    walk_at "ev"
    have hb1 := Nat.mod_lt (k + (x.length - 1)) (show 0 < x.length by omega)
    by_cases h0 : x.getD k 0 = 48
    · rw [cnd_dt h0]
      walk_at "evl"
      rw [joinF_two]
      walk_at "ev"
      rw [binF_eq (by split <;> simp) (by split <;> simp)]
      walk_at "ev"
      rw [ixD_str (by omega) (by split <;> split <;> omega) (by split <;> split <;> omega)]
      walk_at "ev"
      have key : ringAt t r x k = t.getD (((if decide (x.getD ((k + (x.length - 1)) % x.length) 0 = 49) = true then 49 else 48) - 48) * 2 + ((if decide (x.getD (((k : Int) + 1) % (x.length : Int)).toNat 0 = 49) = true then 49 else 48) - 48)) 0 := by
        rw [fore_mod]
        unfold ringAt sgn
        rw [if_pos h0]
        congr 1
        split <;> split <;> simp_all
      rw [List.range_succ, List.map_append, List.map_singleton, key]
      exact Ev.ret ⟨_, .inl rfl, _, _, _, _, rfl⟩
    · rw [cnd_df h0]
      have hm : 0 ≤ ((x.getD k 0 : Int) - 48 + 1) % ((r : Int) + 2) ∧ ((x.getD k 0 : Int) - 48 + 1) % ((r : Int) + 2) < (r : Int) + 2 := ⟨Int.emod_nonneg _ (by omega), Int.emod_lt_of_pos _ (by omega)⟩
      walk_at "ev"
      have key : ringAt t r x k = [48, 49, 50, 51].getD (((x.getD k 0 : Int) - 48 + 1) % ((r : Int) + 2)).toNat 0 := by
        unfold ringAt sgn
        rw [if_neg h0]
        generalize x.getD k 0 = c at *
        have hr' : r = 0 ∨ r = 1 ∨ r = 2 := by omega
        have hc : c = 49 ∨ c = 50 ∨ c = 51 := by omega
        rcases hr' with rfl | rfl | rfl <;> rcases hc with rfl | rfl | rfl <;> first | rfl | omega
      rw [List.range_succ, List.map_append, List.map_singleton, key]
      exact Ev.ret ⟨_, .inl rfl, _, _, _, _, rfl⟩
  · rintro ρ' ⟨s5, s6, s7, s8, rfl⟩
    walk_at "ev"
    exact Ev.ret (by simp [ringL_at])
theorem cut_mid {α : Type} {xs : List α} (h : 2 ≤ xs.length) : cutL xs (some 1) (some (-1)) = (xs.drop 1).take (xs.length - 2) := by
  unfold cutL
  have e1 : HT.sIx xs.length 0 (some 1) = 1 := by
    show (if (1 : Int) < 0 then ((1 : Int) + (xs.length : Int)).toNat else min (1 : Int).toNat xs.length) = _
    rw [if_neg (by omega)]
    simp
    omega
  have e2 : HT.sIx xs.length xs.length (some (-1)) = xs.length - 1 := by
    show (if (-1 : Int) < 0 then (-1 + (xs.length : Int)).toNat else min (-1 : Int).toNat xs.length) = _
    rw [if_pos (by omega)]
    omega
  rw [e1, e2]
  congr 1
theorem law_inner_is {t : List Nat} {r : Nat} {x : List Nat} (ht : BinT t) (hr : r ≤ 2) (hz : x.length ≤ 10000) (hx : Sg r x) : R__law_inner [.tup [.str t, .int (r : Int)], .str x] = M.ret (.str (rowL t r x)) := by
  simp only [R__law_inner, F__law_inner]
  walk_at "ev"
  by_cases h : (2 : Int) < x.length
  · rw [cnd_dt h]
    walk_at "ev"
    rw [law_beat_is ht hr hz hx]
    have hl := ringL_len t r x
    walk_at "ev"
    congr 2
    rw [cut_mid (by omega)]
    apply List.ext_getElem
    · simp [ringL, rowL]
      omega
    · intro i h1 h2
      have hi : i < x.length - 2 := by simpa [rowL] using h2
      simp only [ringL, rowL, List.getElem_take, List.getElem_drop, List.getElem_map, List.getElem_range]
      rw [show 1 + i + (x.length - 1) = i + x.length by omega, Nat.add_mod_right, Nat.mod_eq_of_lt (show i < x.length by omega), Nat.mod_eq_of_lt (show 1 + i + 1 < x.length by omega), show 1 + i + 1 = i + 2 by omega, show 1 + i = i + 1 by omega]
  · rw [cnd_df h]
    walk_at "ev"
    unfold rowL
    rw [show x.length - 2 = 0 by omega]
    rfl
theorem sg_okd {r : Nat} {x : List Nat} (hr : r ≤ 2) (h : Sg r x) {w : Nat} (hz : 10 * x.length + 8 ≤ w) : Okd 0 w (.str x) :=
  (Okd.str (by rw [List.all_eq_true]; intro c hc; have := h c hc; exact decide_eq_true (by omega))).mono (Nat.le_refl _) hz
theorem sg_ok {r : Nat} {x : List Nat} (hr : r ≤ 2) (h : Sg r x) (hz : x.length ≤ 10000) : okA (.str x) = true := (sg_okd hr h (Nat.le_refl _)).ok (by omega) (show _ ≤ 16777216 by omega)
theorem bin_okd {x : List Nat} (h : BinT x) {w : Nat} (hz : 48 ≤ w) : Okd 0 w (.str x) :=
  (Okd.str (by rw [List.all_eq_true]; intro c hc; have := h.2 c hc; exact decide_eq_true (by omega))).mono (Nat.le_refl _) (by rw [h.1]; omega)
theorem int_okd {i : Int} (h : i.natAbs < 10 ^ 12) {w : Nat} (hz : 13 ≤ w) : Okd 0 w (.int i) := (Okd.int h).mono (Nat.le_refl _) hz
theorem bl_okd (b : Bool) {w : Nat} (hz : 5 ≤ w) : Okd 0 w (.bl b) := (Okd.bl b).mono (Nat.le_refl _) hz
theorem non_okd {w : Nat} (hz : 5 ≤ w) : Okd 0 w .non := Okd.non.mono (Nat.le_refl _) hz
theorem sg_take {r : Nat} {x : List Nat} (h : Sg r x) (k : Nat) : Sg r (x.take k) := fun c hc => h c (List.mem_of_mem_take hc)
theorem sg_drop {r : Nat} {x : List Nat} (h : Sg r x) (k : Nat) : Sg r (x.drop k) := fun c hc => h c (List.mem_of_mem_drop hc)
theorem sg_app {r : Nat} {x y : List Nat} (h : Sg r x) (h' : Sg r y) : Sg r (x ++ y) := fun c hc => by
  rcases List.mem_append.mp hc with z | z
  · exact h c z
  · exact h' c z
theorem sg_rev {r : Nat} {x : List Nat} (h : Sg r x) : Sg r x.reverse := fun c hc => h c (List.mem_reverse.mp hc)
theorem sg_nil {r : Nat} : Sg r [] := fun c hc => nomatch hc
end LW
set_option Elab.async false
set_option maxRecDepth 100000
set_option autoImplicit false
set_option linter.unusedVariables false
set_option maxHeartbeats 4000000
namespace LW
open PySem L2 PySem.Spec PyProof.Rows DL
local macro_rules | `(tactic| walk_at "dis") => `(tactic| first | assumption | omega | (simp only [List.length_map, List.length_range, List.length_append, List.length_cons, List.length_nil, List.length_reverse, List.length_take, List.length_drop, List.length_replicate, List.length_singleton]; omega) | (simp; done))
local macro_rules | `(tactic| walk_at "ev") => `(tactic| try simp -implicitDefEqProofs -dsimp (disch := walk_at "dis") only [↓q_seq, ↓q_seqK_nx, ↓q_seqK_rt, ↓q_seqK_rn, ↓q_seqK_bk, ↓q_seqK_ct, ↓q_runD, ↓q_runN, q_runK_rt, q_runK_rn, q_runK_nx, q_runKN_rn, ↓q_set, ↓q_setN, ↓q_ret, ↓q_retN, ↓q_drop, ↓q_if, ↓q_unp, q_unpK, ↓q_par, q_parK, ↓q_app, q_appK, ↓q_aug, q_augK, q_addF_int, q_addF_str, q_guard, ↓q_for, ↓q_forR, q_loopK_nx, q_loopK_ct, q_loopK_bk, q_loopK_rt, q_loopK_rn, ↓q_sNil, ↓q_e2, ↓q_t2, ↓q_e1, ↓q_cst, ↓q_aN, ↓q_aC, ↓q_call, ↓q_callN, ↓q_eN, ↓q_nLst, q_lstK, ↓q_eTup, q_tupK, ↓q_tVal, ↓q_tNot, ↓q_tAnd, ↓q_tOr, ↓q_eAnd, ↓q_eOr, ↓q_eNot, ↓q_eIf, ↓q_iAny, ↓q_iRg1, ↓q_iRg2, ↓q_iEnum, ↓q_nLc, ↓q_cT, ↓q_oN, ↓q_oS, ↓q_eSl, ↓q_eChain, ↓q_tBl, ↓q_eMake, ↓q_eMeth, ↓q_nMeth, ↓q_n1M, ↓q_iSeq, q_selK, q_self, ↓q_iTwo, ↓q_iTwoS, q_two2s, q_two2, ↓q_ext, q_extK, ↓q_nLc2, q_count, q_inE, q_notInE, q_is_non, q_is_str, q_is_int, q_is_tup, q_is_lst, q_isnt_non, q_isnt_str, q_isnt_int, q_isnt_tup, q_isnt_lst, q_list_l, q_list_t, q_tuple_l, q_tuple_t, q_max2, q_min2, q_sum, q_ixF_s, q_ixF_l, q_ixF_t, q_ixF_b, q_inF_s, q_inF_l, q_inF_t, q_lenG_s, q_lenG_l, q_lenG_t, q_lenG_d, q_lenG_dt, ↓q_setD, ↓q_dput, q_dputK, q_keyI, q_keyS, q_seeT, q_toDv, q_toDl, q_toDk, q_toDt, q_toDs0, q_toDs1, q_toDsm, q_fls0, q_fls1, q_flv, q_fll, q_flk, q_flt, q_flsm, q_sloV, q_sloK, q_sloT, q_sloL, q_sloLl, ↓q_oV, ↓q_oL, ↓q_oC, ↓q_oaN, ↓q_oaC, ↓q_oLst, q_oLstK, ↓q_setO, ↓q_parO, q_parOK, ↓q_parO3, q_parO3K, ↓q_appAt, q_appAtK, q_appAtK2, q_flatS, q_flatI, q_flatS2, q_mapv0, q_sloL0, bnd_ret, bnd_assoc, bnd_assoc', bnd_r, cnd_t, cnd_f, cnd_bnd, fail_bnd, bind_bnd, str01, List.cons.injEq, and_true, decide_true, decide_false, cut_toN, cut_fromN, cut_from1N, cut_to1N, cut_to1, cut_to2, cut_to3, cut_from1, cut_toM1, cut_fromM1, DL.startD, List.map_cons, List.map_nil, List.length_cons, List.length_nil, Nat.reduceAdd, Nat.reduceSub, List.replicate, List.cons_append, List.nil_append, view_eq, viewAt_cons, viewAt_nil, List.contains_cons, List.contains_nil, Nat.reduceBEq, Bool.or_true, Bool.or_false, Bool.true_or, Bool.false_or, if_true, Bool.false_eq_true, if_false, Option.map_some, Option.map_none, see_val, see_own, rd_0, rd_1, rd_2, rd_3, rd_4, rd_5, rd_6, rd_7, rd_8, rd_9, rd_10, rd_11, rd_12, rd_13, rd_14, rd_15, rd_16, rd_17, rd_18, rd_19, rd_20, rd_21, rd_22, rd_23, rd_24, rd_25, rd_26, rd_27, rd_28, rd_29, rd_30, rd_31, rd_32, rd_33, rd_34, rd_35, rd_36, rd_37, rd_38, rd_39, rd_40, rd_41, rd_42, rd_43, rd_44, rd_45, Int.reduceToNat, flat_int, flat_str, flat_bl, flat_non, flat_bag, flat_lst, flat_tup, flat_obj, List.all_cons, List.all_nil, Bool.and_true, Bool.true_and, Bool.and_false, Bool.false_and, keepIf_t, keepIf_f, frz_eq, frzAt_cons, frzAt_nil, List.set_cons_succ, List.set_cons_zero, subD_int, addD_int, negD_int, asI_int, asB_bl, truD_bl, lenF_lst, lenF_tup, intF_int, intF_bl, absF_int, ltD_int, leD_int, gtD_int, geD_int, eqD_int, eqD_str, neD_int, neD_str, inD_str, notInD_str, slD_lst, slD_scr, revD_lst, itemsD_lst, itemsD_tup, itemsD_str, Bool.not_true, Bool.not_false, ixD_l, ixD_t, ofSome, atI_0, atI_1, atI_2, atI_3, atI_4, atI_app, slotD_obj, propD_obj, propN_obj, isC_obj, get0, get1, get2, get3, getS, bName_eq, bTup_eq, bCons_eq, bNil_eq, setAll2_cons, setAll2_nil, setAllD_cons, setAllD_nil, wipeD_cons, wipeD_nil, isi_str_str, isi_int_int, isi_bool_int, List.getElem?_cons_zero, List.getElem?_cons_succ, lenF_str, modD_int, divD_int, addD_str, addD_lst, slD_str, revD_str, ixD_str, ixD_str1, ixD_strmod, rng1_int, rng2_int, mulD_intl, mulD_intr, intF_dig])
local macro_rules | `(tactic| walk_at "evl") => `(tactic| try simp -implicitDefEqProofs -dsimp (disch := walk_at "dis") only [↓q_seq, ↓q_seqK_nx, ↓q_seqK_rt, ↓q_seqK_rn, ↓q_seqK_bk, ↓q_seqK_ct, ↓q_runD, ↓q_runN, q_runK_rt, q_runK_rn, q_runK_nx, q_runKN_rn, ↓q_set, ↓q_setN, ↓q_ret, ↓q_retN, ↓q_drop, ↓q_if, ↓q_unp, q_unpK, ↓q_par, q_parK, ↓q_app, q_appK, ↓q_aug, q_augK, q_addF_int, q_addF_str, q_guard, ↓q_for, ↓q_forR, q_loopK_nx, q_loopK_ct, q_loopK_bk, q_loopK_rt, q_loopK_rn, ↓q_sNil, ↓q_e2, ↓q_t2, ↓q_e1, ↓q_cst, ↓q_aN, ↓q_aC, ↓q_call, ↓q_callN, ↓q_eN, ↓q_nLst, q_lstK, ↓q_eTup, q_tupK, ↓q_tVal, ↓q_tNot, ↓q_tAnd, ↓q_tOr, ↓q_eAnd, ↓q_eOr, ↓q_eNot, ↓q_eIf, ↓q_iAny, ↓q_iRg1, ↓q_iRg2, ↓q_iEnum, ↓q_nLc, ↓q_cT, ↓q_oN, ↓q_oS, ↓q_eSl, ↓q_eChain, ↓q_tBl, ↓q_eMake, ↓q_eMeth, ↓q_nMeth, ↓q_n1M, ↓q_iSeq, q_selK, q_self, ↓q_iTwo, ↓q_iTwoS, q_two2s, q_two2, ↓q_ext, q_extK, ↓q_nLc2, q_count, q_inE, q_notInE, q_is_non, q_is_str, q_is_int, q_is_tup, q_is_lst, q_isnt_non, q_isnt_str, q_isnt_int, q_isnt_tup, q_isnt_lst, q_list_l, q_list_t, q_tuple_l, q_tuple_t, q_max2, q_min2, q_sum, q_ixF_s, q_ixF_l, q_ixF_t, q_ixF_b, q_inF_s, q_inF_l, q_inF_t, q_lenG_s, q_lenG_l, q_lenG_t, q_lenG_d, q_lenG_dt, ↓q_setD, ↓q_dput, q_dputK, q_keyI, q_keyS, q_seeT, q_toDv, q_toDl, q_toDk, q_toDt, q_toDs0, q_toDs1, q_toDsm, q_fls0, q_fls1, q_flv, q_fll, q_flk, q_flt, q_flsm, q_sloV, q_sloK, q_sloT, q_sloL, q_sloLl, ↓q_oV, ↓q_oL, ↓q_oC, ↓q_oaN, ↓q_oaC, ↓q_oLst, q_oLstK, ↓q_setO, ↓q_parO, q_parOK, ↓q_parO3, q_parO3K, ↓q_appAt, q_appAtK, q_appAtK2, q_flatS, q_flatI, q_flatS2, q_mapv0, q_sloL0, bnd_ret, bnd_assoc, bnd_assoc', bnd_r, cnd_t, cnd_f, cnd_bnd, fail_bnd, bind_bnd, str01, List.cons.injEq, and_true, decide_true, decide_false, cut_toN, cut_fromN, cut_from1N, cut_to1N, cut_to1, cut_to2, cut_to3, cut_from1, cut_toM1, cut_fromM1, DL.startD, List.map_cons, List.map_nil, List.length_cons, List.length_nil, Nat.reduceAdd, Nat.reduceSub, List.replicate, List.cons_append, List.nil_append, view_eq, viewAt_cons, viewAt_nil, List.contains_cons, List.contains_nil, Nat.reduceBEq, Bool.or_true, Bool.or_false, Bool.true_or, Bool.false_or, if_true, Bool.false_eq_true, if_false, Option.map_some, Option.map_none, see_val, see_own, rd_0, rd_1, rd_2, rd_3, rd_4, rd_5, rd_6, rd_7, rd_8, rd_9, rd_10, rd_11, rd_12, rd_13, rd_14, rd_15, rd_16, rd_17, rd_18, rd_19, rd_20, rd_21, rd_22, rd_23, rd_24, rd_25, rd_26, rd_27, rd_28, rd_29, rd_30, rd_31, rd_32, rd_33, rd_34, rd_35, rd_36, rd_37, rd_38, rd_39, rd_40, rd_41, rd_42, rd_43, rd_44, rd_45, Int.reduceToNat, flat_int, flat_str, flat_bl, flat_non, flat_bag, flat_lst, flat_tup, flat_obj, List.all_cons, List.all_nil, Bool.and_true, Bool.true_and, Bool.and_false, Bool.false_and, keepIf_t, keepIf_f, frz_eq, frzAt_cons, frzAt_nil, List.set_cons_succ, List.set_cons_zero, subD_int, addD_int, negD_int, asI_int, asB_bl, truD_bl, lenF_lst, lenF_tup, intF_int, intF_bl, absF_int, ltD_int, leD_int, gtD_int, geD_int, eqD_int, eqD_str, neD_int, neD_str, inD_str, notInD_str, slD_lst, slD_scr, revD_lst, itemsD_lst, itemsD_tup, itemsD_str, Bool.not_true, Bool.not_false, ixD_l, ixD_t, ofSome, atI_0, atI_1, atI_2, atI_3, atI_4, atI_app, slotD_obj, propD_obj, propN_obj, isC_obj, get0, get1, get2, get3, getS, bName_eq, bTup_eq, bCons_eq, bNil_eq, setAll2_cons, setAll2_nil, setAllD_cons, setAllD_nil, wipeD_cons, wipeD_nil, isi_str_str, isi_int_int, isi_bool_int, List.getElem?_cons_zero, List.getElem?_cons_succ, lenF_str, modD_int, divD_int, addD_str, addD_lst, slD_str, revD_str, ixD_str, ixD_str1, ixD_strmod, rng1_int, rng2_int, mulD_intl, mulD_intr, intF_dig, q_loop0, q_loopN, q_comp0, q_compT])
local macro_rules | `(tactic| walk_at "evc") => `(tactic| try simp -implicitDefEqProofs -dsimp (disch := walk_at "dis") only [↓q_seq, ↓q_seqK_nx, ↓q_seqK_rt, ↓q_seqK_rn, ↓q_seqK_bk, ↓q_seqK_ct, ↓q_runD, ↓q_runN, q_runK_rt, q_runK_rn, q_runK_nx, q_runKN_rn, ↓q_set, ↓q_setN, ↓q_ret, ↓q_retN, ↓q_drop, ↓q_if, ↓q_unp, q_unpK, ↓q_par, q_parK, ↓q_app, q_appK, ↓q_aug, q_augK, q_addF_int, q_addF_str, q_guard, ↓q_for, ↓q_forR, q_loopK_nx, q_loopK_ct, q_loopK_bk, q_loopK_rt, q_loopK_rn, ↓q_sNil, ↓q_e2, ↓q_t2, ↓q_e1, ↓q_cst, ↓q_aN, ↓q_aC, ↓q_call, ↓q_callN, ↓q_eN, ↓q_nLst, q_lstK, ↓q_eTup, q_tupK, ↓q_tVal, ↓q_tNot, ↓q_tAnd, ↓q_tOr, ↓q_eAnd, ↓q_eOr, ↓q_eNot, ↓q_eIf, ↓q_iAny, ↓q_iRg1, ↓q_iRg2, ↓q_iEnum, ↓q_nLc, ↓q_cT, ↓q_oN, ↓q_oS, ↓q_eSl, ↓q_eChain, ↓q_tBl, ↓q_eMake, ↓q_eMeth, ↓q_nMeth, ↓q_n1M, ↓q_iSeq, q_selK, q_self, ↓q_iTwo, ↓q_iTwoS, q_two2s, q_two2, ↓q_ext, q_extK, ↓q_nLc2, q_count, q_inE, q_notInE, q_is_non, q_is_str, q_is_int, q_is_tup, q_is_lst, q_isnt_non, q_isnt_str, q_isnt_int, q_isnt_tup, q_isnt_lst, q_list_l, q_list_t, q_tuple_l, q_tuple_t, q_max2, q_min2, q_sum, q_ixF_s, q_ixF_l, q_ixF_t, q_ixF_b, q_inF_s, q_inF_l, q_inF_t, q_lenG_s, q_lenG_l, q_lenG_t, q_lenG_d, q_lenG_dt, ↓q_setD, ↓q_dput, q_dputK, q_keyI, q_keyS, q_seeT, q_toDv, q_toDl, q_toDk, q_toDt, q_toDs0, q_toDs1, q_toDsm, q_fls0, q_fls1, q_flv, q_fll, q_flk, q_flt, q_flsm, q_sloV, q_sloK, q_sloT, q_sloL, q_sloLl, ↓q_oV, ↓q_oL, ↓q_oC, ↓q_oaN, ↓q_oaC, ↓q_oLst, q_oLstK, ↓q_setO, ↓q_parO, q_parOK, ↓q_parO3, q_parO3K, ↓q_appAt, q_appAtK, q_appAtK2, q_flatS, q_flatI, q_flatS2, q_mapv0, q_sloL0, bnd_ret, bnd_assoc, bnd_assoc', bnd_r, cnd_t, cnd_f, cnd_bnd, fail_bnd, bind_bnd, str01, List.cons.injEq, and_true, decide_true, decide_false, cut_toN, cut_fromN, cut_from1N, cut_to1N, cut_to1, cut_to2, cut_to3, cut_from1, cut_toM1, cut_fromM1, DL.startD, List.map_cons, List.map_nil, List.length_cons, List.length_nil, Nat.reduceAdd, Nat.reduceSub, List.replicate, List.cons_append, List.nil_append, view_eq, viewAt_cons, viewAt_nil, List.contains_cons, List.contains_nil, Nat.reduceBEq, Bool.or_true, Bool.or_false, Bool.true_or, Bool.false_or, if_true, Bool.false_eq_true, if_false, Option.map_some, Option.map_none, see_val, see_own, rd_0, rd_1, rd_2, rd_3, rd_4, rd_5, rd_6, rd_7, rd_8, rd_9, rd_10, rd_11, rd_12, rd_13, rd_14, rd_15, rd_16, rd_17, rd_18, rd_19, rd_20, rd_21, rd_22, rd_23, rd_24, rd_25, rd_26, rd_27, rd_28, rd_29, rd_30, rd_31, rd_32, rd_33, rd_34, rd_35, rd_36, rd_37, rd_38, rd_39, rd_40, rd_41, rd_42, rd_43, rd_44, rd_45, Int.reduceToNat, flat_int, flat_str, flat_bl, flat_non, flat_bag, flat_lst, flat_tup, flat_obj, List.all_cons, List.all_nil, Bool.and_true, Bool.true_and, Bool.and_false, Bool.false_and, keepIf_t, keepIf_f, frz_eq, frzAt_cons, frzAt_nil, List.set_cons_succ, List.set_cons_zero, subD_int, addD_int, negD_int, asI_int, asB_bl, truD_bl, lenF_lst, lenF_tup, intF_int, intF_bl, absF_int, ltD_int, leD_int, gtD_int, geD_int, eqD_int, eqD_str, neD_int, neD_str, inD_str, notInD_str, slD_lst, slD_scr, revD_lst, itemsD_lst, itemsD_tup, itemsD_str, Bool.not_true, Bool.not_false, ixD_l, ixD_t, ofSome, atI_0, atI_1, atI_2, atI_3, atI_4, atI_app, slotD_obj, propD_obj, propN_obj, isC_obj, get0, get1, get2, get3, getS, bName_eq, bTup_eq, bCons_eq, bNil_eq, setAll2_cons, setAll2_nil, setAllD_cons, setAllD_nil, wipeD_cons, wipeD_nil, isi_str_str, isi_int_int, isi_bool_int, List.getElem?_cons_zero, List.getElem?_cons_succ, lenF_str, modD_int, divD_int, addD_str, addD_lst, slD_str, revD_str, ixD_str, ixD_str1, ixD_strmod, rng1_int, rng2_int, mulD_intl, mulD_intr, intF_dig, q_comp0, q_compT])
local macro_rules | `(tactic| walk_at "env") => `(tactic| try simp -implicitDefEqProofs only [List.all_cons, List.all_nil, Bool.and_true, Bool.true_and, setAll2_cons, setAll2_nil, bName_eq, env0, List.replicate, flat_int, flat_str, flat_bl, flat_non, flat_bag, flat_lst, flat_tup, flat_obj, keepIf_t, keepIf_f, frz_eq, frzAt_cons, frzAt_nil, List.contains_cons, List.contains_nil, Nat.reduceBEq, Nat.reduceAdd, Bool.or_true, Bool.or_false, Bool.true_or, if_true, Bool.false_eq_true, if_false, Option.map_some, Option.map_none, see_val, see_own, List.set_cons_succ, List.set_cons_zero])
/-! after -/
def F_after : Env2 → M Out :=
  (seqM (forRM [2] (iRg1 (aC (rdEnv 2) aN)) (bName 3)
  (setM 1 [0, 1] (eMeth 0 R_Rule_ring_after (rdEnv 0) (aC (rdEnv 1) aN))))
  (retM [1] (rdEnv 1)))
def R_after : List D → M D := runD 4 F_after
/-! row_after -/
def F_row_after : Env2 → M Out :=
  (seqM (forRM [2] (iRg1 (aC (rdEnv 2) aN)) (bName 3)
  (setM 1 [0, 1] (eMeth 0 R_Rule_inner_after (rdEnv 0) (aC (rdEnv 1) aN))))
  (retM [1] (rdEnv 1)))
def R_row_after : List D → M D := runD 4 F_row_after
/-! standers -/
def F_standers : Env2 → M Out :=
  (seqM (setNM 3 [1] (nLst (aC (e2 countD (rdEnv 1) (cst (.str [49]))) aN)))
  (seqM (forRM [2] (iRg1 (aC (rdEnv 2) aN)) (bName 4)
  (seqM (setM 1 [0, 1] (eMeth 0 R_Rule_ring_after (rdEnv 0) (aC (rdEnv 1) aN)))
  (appM 3 [1] (e2 countD (rdEnv 1) (cst (.str [49]))))))
  (retOwn 3)))
def R_standers : List D → M (List D) := runN 5 F_standers
def itN {α : Type} (f : α → α) : Nat → α → α
  | 0, x => x
  | n + 1, x => itN f n (f x)
theorem itN_succ {α : Type} (f : α → α) : ∀ (n : Nat) (x : α), itN f (n + 1) x = f (itN f n x)
  | 0, _ => rfl
  | n + 1, x => itN_succ f n (f x)
theorem itN_add {α : Type} (f : α → α) (m : Nat) : ∀ (n : Nat) (x : α), itN f (m + n) x = itN f m (itN f n x)
  | 0, _ => rfl
  | n + 1, x => by rw [← Nat.add_assoc]; exact itN_add f m n (f x)
theorem itN_ring_sg {t : List Nat} {r : Nat} (ht : BinT t) : ∀ (n : Nat) {x : List Nat}, Sg r x → Sg r (itN (ringL t r) n x)
  | 0, _, h => h
  | n + 1, _, h => itN_ring_sg ht n (ringL_sg ht h)
theorem itN_ring_len (t : List Nat) (r : Nat) : ∀ (n : Nat) (x : List Nat), (itN (ringL t r) n x).length = x.length
  | 0, _ => rfl
  | n + 1, x => (itN_ring_len t r n _).trans (ringL_len t r x)
theorem itN_row_sg {t : List Nat} {r : Nat} (ht : BinT t) : ∀ (n : Nat) {x : List Nat}, Sg r x → Sg r (itN (rowL t r) n x)
  | 0, _, h => h
  | n + 1, _, h => itN_row_sg ht n (rowL_sg ht h)
theorem itN_row_len (t : List Nat) (r : Nat) : ∀ (n : Nat) (x : List Nat), (itN (rowL t r) n x).length = x.length - 2 * n
  | 0, _ => rfl
  | n + 1, x => by
    show (itN (rowL t r) n _).length = _
    rw [itN_row_len t r n, rowL_len]; omega
theorem after_is {t : List Nat} {r n : Nat} {x : List Nat} (ht : BinT t) (hr : r ≤ 2) (h0 : 0 < x.length) (hz : x.length ≤ 10000) (hx : Sg r x) (hn : n ≤ 100000) : R_after [rul t r, .str x, .int (n : Int)] = M.ret (.str (itN (ringL t r) n x)) := by
  simp only [R_after, F_after]
  walk_at "ev"
  refine Ev.eq (ev_loop (fun i ρ => ∃ s3, ρ = [some (.val (rul t r)), some (.val (.str (itN (ringL t r) i x))), some (.val (.int (n : Int))), s3]) ⟨_, rfl⟩ ?_ ?_)
  · rintro k d ρ hk ⟨s3, rfl⟩
    refine ⟨[(3, d)], rfl, ?_⟩
    walk_at "ev"
    rw [ring_after_is ht.1 hr (by rw [itN_ring_len]; omega) (by rw [itN_ring_len]; omega) (itN_ring_sg ht k hx)]
    walk_at "ev"
    exact Ev.ret ⟨_, .inl rfl, _, by rw [itN_succ]⟩
  · rintro ρ' ⟨s3, rfl⟩
    walk_at "ev"
    exact Ev.ret (by simp)
theorem row_after_n {t : List Nat} {r n : Nat} {x : List Nat} (ht : BinT t) (hr : r ≤ 2) (hz : x.length ≤ 10000) (hx : Sg r x) (hn : n ≤ 100000) : R_row_after [rul t r, .str x, .int (n : Int)] = M.ret (.str (itN (rowL t r) n x)) := by
  simp only [R_row_after, F_row_after]
  walk_at "ev"
  refine Ev.eq (ev_loop (fun i ρ => ∃ s3, ρ = [some (.val (rul t r)), some (.val (.str (itN (rowL t r) i x))), some (.val (.int (n : Int))), s3]) ⟨_, rfl⟩ ?_ ?_)
  · rintro k d ρ hk ⟨s3, rfl⟩
    refine ⟨[(3, d)], rfl, ?_⟩
    walk_at "ev"
    rw [inner_after_is ht.1 hr (by rw [itN_row_len]; omega) (itN_row_sg ht k hx)]
    walk_at "ev"
    exact Ev.ret ⟨_, .inl rfl, _, by rw [itN_succ]⟩
  · rintro ρ' ⟨s3, rfl⟩
    walk_at "ev"
    exact Ev.ret (by simp)
def stands1 (x : List Nat) : D := .int (x.count 49 : Int)
theorem standers_is {t : List Nat} {r n : Nat} {x : List Nat} (ht : BinT t) (hr : r ≤ 2) (h0 : 0 < x.length) (hz : x.length ≤ 10000) (hx : Sg r x) (hn : n ≤ 100000) : R_standers [rul t r, .str x, .int (n : Int)] = M.ret ((List.range (n + 1)).map fun i => stands1 (itN (ringL t r) i x)) := by
  simp only [R_standers, F_standers]
  walk_at "ev"
  refine Ev.eq (ev_loop (fun i ρ => ∃ s4, ρ = [some (.val (rul t r)), some (.val (.str (itN (ringL t r) i x))), some (.val (.int (n : Int))), some (.own ((List.range (i + 1)).map fun i => stands1 (itN (ringL t r) i x))), s4]) ⟨_, rfl⟩ ?_ ?_)
  · rintro k d ρ hk ⟨s3, rfl⟩
    obtain ⟨hk, rfl⟩ := get_rmap hk
    refine ⟨[(4, D.int (0 + (k : Int)))], rfl, ?_⟩
    walk_at "ev"
    rw [ring_after_is ht.1 hr (by rw [itN_ring_len]; omega) (by rw [itN_ring_len]; omega) (itN_ring_sg ht k hx)]
    walk_at "ev"
    rw [List.range_succ (n := k + 1), List.map_append, List.map_singleton, itN_succ]
    exact Ev.ret ⟨_, .inl rfl, _, rfl⟩
  · rintro ρ' ⟨s3, rfl⟩
    rw [List.length_map, List.length_range]
    simp only [q_seqK_nx]
    rw [q_retOwn_o (i := 3) rfl]
    exact Ev.ret (by simp)
theorem after_0 {t : List Nat} {r : Nat} {x : List Nat} (ht : BinT t) (hr : r ≤ 2) (h0 : 0 < x.length) (hz : x.length ≤ 10000) (hx : Sg r x) : R_after [rul t r, .str x, .int 0] = M.ret (.str x) := after_is (n := 0) ht hr h0 hz hx (by omega)
theorem row_after_0 {t : List Nat} {r : Nat} {x : List Nat} (ht : BinT t) (hr : r ≤ 2) (hz : x.length ≤ 10000) (hx : Sg r x) : R_row_after [rul t r, .str x, .int 0] = M.ret (.str x) := row_after_n (n := 0) ht hr hz hx (by omega)
end LW
set_option Elab.async false
set_option maxRecDepth 100000
set_option autoImplicit false
set_option linter.unusedVariables false
set_option maxHeartbeats 4000000
namespace LW
open PySem L2 PySem.Spec PyProof.Rows DL
local macro_rules | `(tactic| walk_at "dis") => `(tactic| first | assumption | omega | (simp only [List.length_map, List.length_range, List.length_append, List.length_cons, List.length_nil, List.length_reverse, List.length_take, List.length_drop, List.length_replicate, List.length_singleton]; omega) | (simp; done))
local macro_rules | `(tactic| walk_at "ev") => `(tactic| try simp -implicitDefEqProofs -dsimp (disch := walk_at "dis") only [↓q_seq, ↓q_seqK_nx, ↓q_seqK_rt, ↓q_seqK_rn, ↓q_seqK_bk, ↓q_seqK_ct, ↓q_runD, ↓q_runN, q_runK_rt, q_runK_rn, q_runK_nx, q_runKN_rn, ↓q_set, ↓q_setN, ↓q_ret, ↓q_retN, ↓q_drop, ↓q_if, ↓q_unp, q_unpK, ↓q_par, q_parK, ↓q_app, q_appK, ↓q_aug, q_augK, q_addF_int, q_addF_str, q_guard, ↓q_for, ↓q_forR, q_loopK_nx, q_loopK_ct, q_loopK_bk, q_loopK_rt, q_loopK_rn, ↓q_sNil, ↓q_e2, ↓q_t2, ↓q_e1, ↓q_cst, ↓q_aN, ↓q_aC, ↓q_call, ↓q_callN, ↓q_eN, ↓q_nLst, q_lstK, ↓q_eTup, q_tupK, ↓q_tVal, ↓q_tNot, ↓q_tAnd, ↓q_tOr, ↓q_eAnd, ↓q_eOr, ↓q_eNot, ↓q_eIf, ↓q_iAny, ↓q_iRg1, ↓q_iRg2, ↓q_iEnum, ↓q_nLc, ↓q_cT, ↓q_oN, ↓q_oS, ↓q_eSl, ↓q_eChain, ↓q_tBl, ↓q_eMake, ↓q_eMeth, ↓q_nMeth, ↓q_n1M, ↓q_iSeq, q_selK, q_self, ↓q_iTwo, ↓q_iTwoS, q_two2s, q_two2, ↓q_ext, q_extK, ↓q_nLc2, q_count, q_inE, q_notInE, q_is_non, q_is_str, q_is_int, q_is_tup, q_is_lst, q_isnt_non, q_isnt_str, q_isnt_int, q_isnt_tup, q_isnt_lst, q_list_l, q_list_t, q_tuple_l, q_tuple_t, q_max2, q_min2, q_sum, q_ixF_s, q_ixF_l, q_ixF_t, q_ixF_b, q_inF_s, q_inF_l, q_inF_t, q_lenG_s, q_lenG_l, q_lenG_t, q_lenG_d, q_lenG_dt, ↓q_setD, ↓q_dput, q_dputK, q_keyI, q_keyS, q_seeT, q_toDv, q_toDl, q_toDk, q_toDt, q_toDs0, q_toDs1, q_toDsm, q_fls0, q_fls1, q_flv, q_fll, q_flk, q_flt, q_flsm, q_sloV, q_sloK, q_sloT, q_sloL, q_sloLl, ↓q_oV, ↓q_oL, ↓q_oC, ↓q_oaN, ↓q_oaC, ↓q_oLst, q_oLstK, ↓q_setO, ↓q_parO, q_parOK, ↓q_parO3, q_parO3K, ↓q_appAt, q_appAtK, q_appAtK2, q_flatS, q_flatI, q_flatS2, q_mapv0, q_sloL0, bnd_ret, bnd_assoc, bnd_assoc', bnd_r, cnd_t, cnd_f, cnd_bnd, fail_bnd, bind_bnd, str01, List.cons.injEq, and_true, decide_true, decide_false, cut_toN, cut_fromN, cut_from1N, cut_to1N, cut_to1, cut_to2, cut_to3, cut_from1, cut_toM1, cut_fromM1, DL.startD, List.map_cons, List.map_nil, List.length_cons, List.length_nil, Nat.reduceAdd, Nat.reduceSub, List.replicate, List.cons_append, List.nil_append, view_eq, viewAt_cons, viewAt_nil, List.contains_cons, List.contains_nil, Nat.reduceBEq, Bool.or_true, Bool.or_false, Bool.true_or, Bool.false_or, if_true, Bool.false_eq_true, if_false, Option.map_some, Option.map_none, see_val, see_own, rd_0, rd_1, rd_2, rd_3, rd_4, rd_5, rd_6, rd_7, rd_8, rd_9, rd_10, rd_11, rd_12, rd_13, rd_14, rd_15, rd_16, rd_17, rd_18, rd_19, rd_20, rd_21, rd_22, rd_23, rd_24, rd_25, rd_26, rd_27, rd_28, rd_29, rd_30, rd_31, rd_32, rd_33, rd_34, rd_35, rd_36, rd_37, rd_38, rd_39, rd_40, rd_41, rd_42, rd_43, rd_44, rd_45, Int.reduceToNat, flat_int, flat_str, flat_bl, flat_non, flat_bag, flat_lst, flat_tup, flat_obj, List.all_cons, List.all_nil, Bool.and_true, Bool.true_and, Bool.and_false, Bool.false_and, keepIf_t, keepIf_f, frz_eq, frzAt_cons, frzAt_nil, List.set_cons_succ, List.set_cons_zero, subD_int, addD_int, negD_int, asI_int, asB_bl, truD_bl, lenF_lst, lenF_tup, intF_int, intF_bl, absF_int, ltD_int, leD_int, gtD_int, geD_int, eqD_int, eqD_str, neD_int, neD_str, inD_str, notInD_str, slD_lst, slD_scr, revD_lst, itemsD_lst, itemsD_tup, itemsD_str, Bool.not_true, Bool.not_false, ixD_l, ixD_t, ofSome, atI_0, atI_1, atI_2, atI_3, atI_4, atI_app, slotD_obj, propD_obj, propN_obj, isC_obj, get0, get1, get2, get3, getS, bName_eq, bTup_eq, bCons_eq, bNil_eq, setAll2_cons, setAll2_nil, setAllD_cons, setAllD_nil, wipeD_cons, wipeD_nil, isi_str_str, isi_int_int, isi_bool_int, List.getElem?_cons_zero, List.getElem?_cons_succ, lenF_str, modD_int, divD_int, addD_str, addD_lst, slD_str, revD_str, ixD_str, ixD_str1, ixD_strmod, rng1_int, rng2_int, mulD_intl, mulD_intr, intF_dig])
local macro_rules | `(tactic| walk_at "evl") => `(tactic| try simp -implicitDefEqProofs -dsimp (disch := walk_at "dis") only [↓q_seq, ↓q_seqK_nx, ↓q_seqK_rt, ↓q_seqK_rn, ↓q_seqK_bk, ↓q_seqK_ct, ↓q_runD, ↓q_runN, q_runK_rt, q_runK_rn, q_runK_nx, q_runKN_rn, ↓q_set, ↓q_setN, ↓q_ret, ↓q_retN, ↓q_drop, ↓q_if, ↓q_unp, q_unpK, ↓q_par, q_parK, ↓q_app, q_appK, ↓q_aug, q_augK, q_addF_int, q_addF_str, q_guard, ↓q_for, ↓q_forR, q_loopK_nx, q_loopK_ct, q_loopK_bk, q_loopK_rt, q_loopK_rn, ↓q_sNil, ↓q_e2, ↓q_t2, ↓q_e1, ↓q_cst, ↓q_aN, ↓q_aC, ↓q_call, ↓q_callN, ↓q_eN, ↓q_nLst, q_lstK, ↓q_eTup, q_tupK, ↓q_tVal, ↓q_tNot, ↓q_tAnd, ↓q_tOr, ↓q_eAnd, ↓q_eOr, ↓q_eNot, ↓q_eIf, ↓q_iAny, ↓q_iRg1, ↓q_iRg2, ↓q_iEnum, ↓q_nLc, ↓q_cT, ↓q_oN, ↓q_oS, ↓q_eSl, ↓q_eChain, ↓q_tBl, ↓q_eMake, ↓q_eMeth, ↓q_nMeth, ↓q_n1M, ↓q_iSeq, q_selK, q_self, ↓q_iTwo, ↓q_iTwoS, q_two2s, q_two2, ↓q_ext, q_extK, ↓q_nLc2, q_count, q_inE, q_notInE, q_is_non, q_is_str, q_is_int, q_is_tup, q_is_lst, q_isnt_non, q_isnt_str, q_isnt_int, q_isnt_tup, q_isnt_lst, q_list_l, q_list_t, q_tuple_l, q_tuple_t, q_max2, q_min2, q_sum, q_ixF_s, q_ixF_l, q_ixF_t, q_ixF_b, q_inF_s, q_inF_l, q_inF_t, q_lenG_s, q_lenG_l, q_lenG_t, q_lenG_d, q_lenG_dt, ↓q_setD, ↓q_dput, q_dputK, q_keyI, q_keyS, q_seeT, q_toDv, q_toDl, q_toDk, q_toDt, q_toDs0, q_toDs1, q_toDsm, q_fls0, q_fls1, q_flv, q_fll, q_flk, q_flt, q_flsm, q_sloV, q_sloK, q_sloT, q_sloL, q_sloLl, ↓q_oV, ↓q_oL, ↓q_oC, ↓q_oaN, ↓q_oaC, ↓q_oLst, q_oLstK, ↓q_setO, ↓q_parO, q_parOK, ↓q_parO3, q_parO3K, ↓q_appAt, q_appAtK, q_appAtK2, q_flatS, q_flatI, q_flatS2, q_mapv0, q_sloL0, bnd_ret, bnd_assoc, bnd_assoc', bnd_r, cnd_t, cnd_f, cnd_bnd, fail_bnd, bind_bnd, str01, List.cons.injEq, and_true, decide_true, decide_false, cut_toN, cut_fromN, cut_from1N, cut_to1N, cut_to1, cut_to2, cut_to3, cut_from1, cut_toM1, cut_fromM1, DL.startD, List.map_cons, List.map_nil, List.length_cons, List.length_nil, Nat.reduceAdd, Nat.reduceSub, List.replicate, List.cons_append, List.nil_append, view_eq, viewAt_cons, viewAt_nil, List.contains_cons, List.contains_nil, Nat.reduceBEq, Bool.or_true, Bool.or_false, Bool.true_or, Bool.false_or, if_true, Bool.false_eq_true, if_false, Option.map_some, Option.map_none, see_val, see_own, rd_0, rd_1, rd_2, rd_3, rd_4, rd_5, rd_6, rd_7, rd_8, rd_9, rd_10, rd_11, rd_12, rd_13, rd_14, rd_15, rd_16, rd_17, rd_18, rd_19, rd_20, rd_21, rd_22, rd_23, rd_24, rd_25, rd_26, rd_27, rd_28, rd_29, rd_30, rd_31, rd_32, rd_33, rd_34, rd_35, rd_36, rd_37, rd_38, rd_39, rd_40, rd_41, rd_42, rd_43, rd_44, rd_45, Int.reduceToNat, flat_int, flat_str, flat_bl, flat_non, flat_bag, flat_lst, flat_tup, flat_obj, List.all_cons, List.all_nil, Bool.and_true, Bool.true_and, Bool.and_false, Bool.false_and, keepIf_t, keepIf_f, frz_eq, frzAt_cons, frzAt_nil, List.set_cons_succ, List.set_cons_zero, subD_int, addD_int, negD_int, asI_int, asB_bl, truD_bl, lenF_lst, lenF_tup, intF_int, intF_bl, absF_int, ltD_int, leD_int, gtD_int, geD_int, eqD_int, eqD_str, neD_int, neD_str, inD_str, notInD_str, slD_lst, slD_scr, revD_lst, itemsD_lst, itemsD_tup, itemsD_str, Bool.not_true, Bool.not_false, ixD_l, ixD_t, ofSome, atI_0, atI_1, atI_2, atI_3, atI_4, atI_app, slotD_obj, propD_obj, propN_obj, isC_obj, get0, get1, get2, get3, getS, bName_eq, bTup_eq, bCons_eq, bNil_eq, setAll2_cons, setAll2_nil, setAllD_cons, setAllD_nil, wipeD_cons, wipeD_nil, isi_str_str, isi_int_int, isi_bool_int, List.getElem?_cons_zero, List.getElem?_cons_succ, lenF_str, modD_int, divD_int, addD_str, addD_lst, slD_str, revD_str, ixD_str, ixD_str1, ixD_strmod, rng1_int, rng2_int, mulD_intl, mulD_intr, intF_dig, q_loop0, q_loopN, q_comp0, q_compT])
local macro_rules | `(tactic| walk_at "evc") => `(tactic| try simp -implicitDefEqProofs -dsimp (disch := walk_at "dis") only [↓q_seq, ↓q_seqK_nx, ↓q_seqK_rt, ↓q_seqK_rn, ↓q_seqK_bk, ↓q_seqK_ct, ↓q_runD, ↓q_runN, q_runK_rt, q_runK_rn, q_runK_nx, q_runKN_rn, ↓q_set, ↓q_setN, ↓q_ret, ↓q_retN, ↓q_drop, ↓q_if, ↓q_unp, q_unpK, ↓q_par, q_parK, ↓q_app, q_appK, ↓q_aug, q_augK, q_addF_int, q_addF_str, q_guard, ↓q_for, ↓q_forR, q_loopK_nx, q_loopK_ct, q_loopK_bk, q_loopK_rt, q_loopK_rn, ↓q_sNil, ↓q_e2, ↓q_t2, ↓q_e1, ↓q_cst, ↓q_aN, ↓q_aC, ↓q_call, ↓q_callN, ↓q_eN, ↓q_nLst, q_lstK, ↓q_eTup, q_tupK, ↓q_tVal, ↓q_tNot, ↓q_tAnd, ↓q_tOr, ↓q_eAnd, ↓q_eOr, ↓q_eNot, ↓q_eIf, ↓q_iAny, ↓q_iRg1, ↓q_iRg2, ↓q_iEnum, ↓q_nLc, ↓q_cT, ↓q_oN, ↓q_oS, ↓q_eSl, ↓q_eChain, ↓q_tBl, ↓q_eMake, ↓q_eMeth, ↓q_nMeth, ↓q_n1M, ↓q_iSeq, q_selK, q_self, ↓q_iTwo, ↓q_iTwoS, q_two2s, q_two2, ↓q_ext, q_extK, ↓q_nLc2, q_count, q_inE, q_notInE, q_is_non, q_is_str, q_is_int, q_is_tup, q_is_lst, q_isnt_non, q_isnt_str, q_isnt_int, q_isnt_tup, q_isnt_lst, q_list_l, q_list_t, q_tuple_l, q_tuple_t, q_max2, q_min2, q_sum, q_ixF_s, q_ixF_l, q_ixF_t, q_ixF_b, q_inF_s, q_inF_l, q_inF_t, q_lenG_s, q_lenG_l, q_lenG_t, q_lenG_d, q_lenG_dt, ↓q_setD, ↓q_dput, q_dputK, q_keyI, q_keyS, q_seeT, q_toDv, q_toDl, q_toDk, q_toDt, q_toDs0, q_toDs1, q_toDsm, q_fls0, q_fls1, q_flv, q_fll, q_flk, q_flt, q_flsm, q_sloV, q_sloK, q_sloT, q_sloL, q_sloLl, ↓q_oV, ↓q_oL, ↓q_oC, ↓q_oaN, ↓q_oaC, ↓q_oLst, q_oLstK, ↓q_setO, ↓q_parO, q_parOK, ↓q_parO3, q_parO3K, ↓q_appAt, q_appAtK, q_appAtK2, q_flatS, q_flatI, q_flatS2, q_mapv0, q_sloL0, bnd_ret, bnd_assoc, bnd_assoc', bnd_r, cnd_t, cnd_f, cnd_bnd, fail_bnd, bind_bnd, str01, List.cons.injEq, and_true, decide_true, decide_false, cut_toN, cut_fromN, cut_from1N, cut_to1N, cut_to1, cut_to2, cut_to3, cut_from1, cut_toM1, cut_fromM1, DL.startD, List.map_cons, List.map_nil, List.length_cons, List.length_nil, Nat.reduceAdd, Nat.reduceSub, List.replicate, List.cons_append, List.nil_append, view_eq, viewAt_cons, viewAt_nil, List.contains_cons, List.contains_nil, Nat.reduceBEq, Bool.or_true, Bool.or_false, Bool.true_or, Bool.false_or, if_true, Bool.false_eq_true, if_false, Option.map_some, Option.map_none, see_val, see_own, rd_0, rd_1, rd_2, rd_3, rd_4, rd_5, rd_6, rd_7, rd_8, rd_9, rd_10, rd_11, rd_12, rd_13, rd_14, rd_15, rd_16, rd_17, rd_18, rd_19, rd_20, rd_21, rd_22, rd_23, rd_24, rd_25, rd_26, rd_27, rd_28, rd_29, rd_30, rd_31, rd_32, rd_33, rd_34, rd_35, rd_36, rd_37, rd_38, rd_39, rd_40, rd_41, rd_42, rd_43, rd_44, rd_45, Int.reduceToNat, flat_int, flat_str, flat_bl, flat_non, flat_bag, flat_lst, flat_tup, flat_obj, List.all_cons, List.all_nil, Bool.and_true, Bool.true_and, Bool.and_false, Bool.false_and, keepIf_t, keepIf_f, frz_eq, frzAt_cons, frzAt_nil, List.set_cons_succ, List.set_cons_zero, subD_int, addD_int, negD_int, asI_int, asB_bl, truD_bl, lenF_lst, lenF_tup, intF_int, intF_bl, absF_int, ltD_int, leD_int, gtD_int, geD_int, eqD_int, eqD_str, neD_int, neD_str, inD_str, notInD_str, slD_lst, slD_scr, revD_lst, itemsD_lst, itemsD_tup, itemsD_str, Bool.not_true, Bool.not_false, ixD_l, ixD_t, ofSome, atI_0, atI_1, atI_2, atI_3, atI_4, atI_app, slotD_obj, propD_obj, propN_obj, isC_obj, get0, get1, get2, get3, getS, bName_eq, bTup_eq, bCons_eq, bNil_eq, setAll2_cons, setAll2_nil, setAllD_cons, setAllD_nil, wipeD_cons, wipeD_nil, isi_str_str, isi_int_int, isi_bool_int, List.getElem?_cons_zero, List.getElem?_cons_succ, lenF_str, modD_int, divD_int, addD_str, addD_lst, slD_str, revD_str, ixD_str, ixD_str1, ixD_strmod, rng1_int, rng2_int, mulD_intl, mulD_intr, intF_dig, q_comp0, q_compT])
local macro_rules | `(tactic| walk_at "env") => `(tactic| try simp -implicitDefEqProofs only [List.all_cons, List.all_nil, Bool.and_true, Bool.true_and, setAll2_cons, setAll2_nil, bName_eq, env0, List.replicate, flat_int, flat_str, flat_bl, flat_non, flat_bag, flat_lst, flat_tup, flat_obj, keepIf_t, keepIf_f, frz_eq, frzAt_cons, frzAt_nil, List.contains_cons, List.contains_nil, Nat.reduceBEq, Nat.reduceAdd, Bool.or_true, Bool.or_false, Bool.true_or, if_true, Bool.false_eq_true, if_false, Option.map_some, Option.map_none, see_val, see_own, List.set_cons_succ, List.set_cons_zero])
/-! changed_seat -/
def F_changed_seat : Env2 → M Out :=
  (retM [0, 1, 2] (e2 addD (e2 addD (eSl (rdEnv 0) oN (oS (rdEnv 1))) (rdEnv 2)) (eSl (rdEnv 0) (oS (e2 addD (rdEnv 1) (cst (.int 1)))) oN)))
def R_changed_seat : List D → M D := runD 3 F_changed_seat
/-! seats_apart -/
def F_seats_apart : Env2 → M Out :=
  (retNM [0, 1, 2] (nLc [2] (iRg1 (aC (eCall lenG (aC (rdEnv 0) aN)) aN)) (bName 2) (t2 (eqD true) (e2 ixF (rdEnv 0) (rdEnv 2)) (e2 ixF (rdEnv 1) (rdEnv 2))) (rdEnv 2)))
def R_seats_apart : List D → M (List D) := runN 3 F_seats_apart
/-! unlike_seats -/
def F_unlike_seats : Env2 → M Out :=
  (seqM (forRM [3] (iRg1 (aC (rdEnv 3) aN)) (bName 4)
  (parM 1 2 [0, 1, 2] (aC (eMeth 0 R_Rule_ring_after (rdEnv 0) (aC (rdEnv 1) aN)) (aC (eMeth 0 R_Rule_ring_after (rdEnv 0) (aC (rdEnv 2) aN)) aN))))
  (retNM [1, 2] (nCall R_seats_apart (aC (rdEnv 1) (aC (rdEnv 2) aN)))))
def R_unlike_seats : List D → M (List D) := runN 5 F_unlike_seats
/-! spread_of -/
def F_spread_of : Env2 → M Out :=
  (seqM (setM 5 [1, 2, 3] (eCall R_changed_seat (aC (rdEnv 1) (aC (rdEnv 2) (aC (rdEnv 3) aN)))))
  (seqM (setNM 6 [1, 5] (nLst (aC (eCall lenG (aC (eN (nCall R_seats_apart (aC (rdEnv 1) (aC (rdEnv 5) aN)))) aN)) aN)))
  (seqM (forRM [4] (iRg1 (aC (rdEnv 4) aN)) (bName 7)
  (seqM (parM 1 5 [0, 1, 5] (aC (eMeth 0 R_Rule_ring_after (rdEnv 0) (aC (rdEnv 1) aN)) (aC (eMeth 0 R_Rule_ring_after (rdEnv 0) (aC (rdEnv 5) aN)) aN)))
  (appM 6 [1, 5] (eCall lenG (aC (eN (nCall R_seats_apart (aC (rdEnv 1) (aC (rdEnv 5) aN)))) aN)))))
  (retOwn 6))))
def R_spread_of : List D → M (List D) := runN 8 F_spread_of
/-! _law_apart -/
def F__law_apart : Env2 → M Out :=
  (seqM (setNM 4 [1, 2, 6] (nLst (aC (eN (nLc [6] (iRg1 (aC (eCall lenG (aC (rdEnv 1) aN)) aN)) (bName 6) (t2 (eqD true) (e2 ixF (rdEnv 1) (rdEnv 6)) (e2 ixF (rdEnv 2) (rdEnv 6))) (rdEnv 6))) aN)))
  (seqM (forRM [3] (iRg1 (aC (rdEnv 3) aN)) (bName 5)
  (seqM (unpM (bTup 2 (bCons (bName 1) (bCons (bName 2) bNil))) [0, 1, 2] (eTup (aC (eCall R__law_beat (aC (rdEnv 0) (aC (rdEnv 1) aN))) (aC (eCall R__law_beat (aC (rdEnv 0) (aC (rdEnv 2) aN))) aN))))
  (appM 4 [1, 2, 6] (eN (nLc [6] (iRg1 (aC (eCall lenG (aC (rdEnv 1) aN)) aN)) (bName 6) (t2 (eqD true) (e2 ixF (rdEnv 1) (rdEnv 6)) (e2 ixF (rdEnv 2) (rdEnv 6))) (rdEnv 6))))))
  (retOwn 4)))
def R__law_apart : List D → M (List D) := runN 7 F__law_apart
def chg (x : List Nat) (s c : Nat) : List Nat := (x.take s ++ [c]) ++ x.drop (s + 1)
theorem chg_len {x : List Nat} {s c : Nat} (h : s < x.length) : (chg x s c).length = x.length := by simp [chg]; omega
theorem chg_sg {r : Nat} {x : List Nat} {s c : Nat} (h : Sg r x) (hc : 48 ≤ c ∧ c < 50 + r) : Sg r (chg x s c) :=
  sg_app (sg_app (sg_take h s) fun d hd => by simp at hd; subst hd; exact hc) (sg_drop h _)
def apL (x y : List Nat) : List D := ((List.range x.length).filter fun k => !decide (x.getD k 0 = y.getD k 0)).map fun (k : Nat) => D.int (0 + (k : Int))
theorem apL_len (x y : List Nat) : (apL x y).length ≤ x.length := by
  unfold apL
  rw [List.length_map]
  exact Nat.le_trans (List.length_filter_le _ _) (by simp)
theorem apL_flat (x y : List Nat) : (apL x y).all D.flat = true := by
  simp [apL, D.flat]
theorem apL_okd (x y : List Nat) (h : x.length ≤ 1000) : Okd 1 20000 (.lst (apL x y)) := by
  refine (Okd.lst (k := 0) (w := 13) fun d hd => ?_).mono (Nat.le_refl _) ?_
  · unfold apL at hd
    obtain ⟨k, hk, rfl⟩ := List.mem_map.mp hd
    have := List.mem_range.mp (List.mem_filter.mp hk).1
    exact Okd.int (by omega)
  · have := apL_len x y
    omega
theorem comp_ap {x y : List Nat} {m n k : Nat} {ρ : DL.Env} (hx : x.length ≤ 10000) (hy : x.length = y.length) (h1 : ∀ d, (ρ.set k (some d))[m]? = some (some (.str x))) (h2 : ∀ d, (ρ.set k (some d))[n]? = some (some (.str y))) (h3 : k < ρ.length) :
    compM (bName k) (t2 (eqD true) (e2 ixF (rdEnv m) (rdEnv k)) (e2 ixF (rdEnv n) (rdEnv k))) (rdEnv k) ρ ((List.range x.length).map fun (j : Nat) => D.int (0 + (j : Int))) = M.ret (apL x y) := by
  unfold apL
  refine compM_filterI (l := fun (j : Nat) => [(k, D.int (0 + (j : Int)))]) (k := fun j => !decide (x.getD j 0 = y.getD j 0)) (y := fun (j : Nat) => D.int (0 + (j : Int))) fun j hj => ⟨rfl, ?_, ?_⟩
  · have hj : j < x.length := List.mem_range.mp hj
    simp only [setAllD_cons, setAllD_nil, q_t2, q_e2]
    rw [rd_some (h1 _), rd_some (h2 _), rd_some (i := k) (d := D.int (0 + (j : Int))) (List.getElem?_set_self h3)]
    walk_at "ev"
    rw [show (0 + (j : Int)).toNat = j by omega]
  · simp only [setAllD_cons, setAllD_nil]
    exact rd_some (List.getElem?_set_self h3)
theorem changed_seat_is {x : List Nat} {s c : Nat} (hx : x.length ≤ 10000) (h : s < x.length) : R_changed_seat [.str x, .int (s : Int), .str [c]] = M.ret (.str (chg x s c)) := by
  simp only [R_changed_seat, F_changed_seat]
  walk_at "ev"
  rfl
theorem seats_apart_is {x y : List Nat} (hx : x.length ≤ 10000) (hy : x.length = y.length) : R_seats_apart [.str x, .str y] = M.ret (apL x y) := by
  have := apL_len x y
  simp only [R_seats_apart, F_seats_apart]
  walk_at "ev"
  rw [Int.toNat_natCast, comp_ap hx hy (fun _ => rfl) (fun _ => rfl) (by simp)]
  walk_at "ev"
theorem unlike_seats_is {t : List Nat} {r n : Nat} {x y : List Nat} (ht : BinT t) (hr : r ≤ 2) (h0 : 0 < x.length) (hx : x.length ≤ 10000) (hy : x.length = y.length) (sx : Sg r x) (sy : Sg r y) (hn : n ≤ 100000) : R_unlike_seats [rul t r, .str x, .str y, .int (n : Int)] = M.ret (apL (itN (ringL t r) n x) (itN (ringL t r) n y)) := by
  simp only [R_unlike_seats, F_unlike_seats]
  walk_at "ev"
  refine Ev.eq (ev_loop (fun i ρ => ∃ s4, ρ = [some (.val (rul t r)), some (.val (.str (itN (ringL t r) i x))), some (.val (.str (itN (ringL t r) i y))), some (.val (.int (n : Int))), s4]) ⟨_, rfl⟩ ?_ ?_)
  · rintro k d ρ hk ⟨s4, rfl⟩
    refine ⟨[(4, d)], rfl, ?_⟩
    walk_at "ev"
    rw [ring_after_is ht.1 hr (by rw [itN_ring_len]; omega) (by rw [itN_ring_len]; omega) (itN_ring_sg ht k sx)]
    walk_at "ev"
    rw [ring_after_is ht.1 hr (by rw [itN_ring_len]; omega) (by rw [itN_ring_len]; omega) (itN_ring_sg ht k sy)]
    walk_at "ev"
    exact Ev.ret ⟨_, .inl rfl, _, by rw [itN_succ, itN_succ]⟩
  · rintro ρ' ⟨s4, rfl⟩
    rw [List.length_map, List.length_range, Int.toNat_natCast]
    walk_at "ev"
    rw [seats_apart_is (by rw [itN_ring_len]; omega) (by rw [itN_ring_len, itN_ring_len]; exact hy)]
    walk_at "ev"
    exact Ev.ret rfl
def sprL (t : List Nat) (r : Nat) (x y : List Nat) (n : Nat) : List D := (List.range (n + 1)).map fun i => D.int ((apL (itN (ringL t r) i x) (itN (ringL t r) i y)).length : Int)
def apsL (t : List Nat) (r : Nat) (x y : List Nat) (n : Nat) : List D := (List.range (n + 1)).map fun i => D.lst (apL (itN (ringL t r) i x) (itN (ringL t r) i y))
theorem sprL_len (t : List Nat) (r : Nat) (x y : List Nat) (n : Nat) : (sprL t r x y n).length = n + 1 := by simp [sprL]
theorem apsL_len (t : List Nat) (r : Nat) (x y : List Nat) (n : Nat) : (apsL t r x y n).length = n + 1 := by simp [apsL]
theorem sprL_succ (t : List Nat) (r : Nat) (x y : List Nat) (n : Nat) : sprL t r x y (n + 1) = sprL t r x y n ++ [D.int ((apL (itN (ringL t r) (n + 1) x) (itN (ringL t r) (n + 1) y)).length : Int)] := by
  unfold sprL
  rw [List.range_succ (n := n + 1), List.map_append, List.map_singleton]
theorem apsL_succ (t : List Nat) (r : Nat) (x y : List Nat) (n : Nat) : apsL t r x y (n + 1) = apsL t r x y n ++ [D.lst (apL (itN (ringL t r) (n + 1) x) (itN (ringL t r) (n + 1) y))] := by
  unfold apsL
  rw [List.range_succ (n := n + 1), List.map_append, List.map_singleton]
theorem apsL_last (t : List Nat) (r : Nat) (x y : List Nat) (n : Nat) : atI (apsL t r x y n) (-1) = some (D.lst (apL (itN (ringL t r) n x) (itN (ringL t r) n y))) := by
  cases n with
  | zero => rfl
  | succ n => rw [apsL_succ]; exact atI_app _ _
theorem spread_of_is {t : List Nat} {r n s c : Nat} {x : List Nat} (ht : BinT t) (hr : r ≤ 2) (hs : s < x.length) (hx : x.length ≤ 10000) (sx : Sg r x) (hc : 48 ≤ c ∧ c < 50 + r) (hn : n ≤ 100000) : R_spread_of [rul t r, .str x, .int (s : Int), .str [c], .int (n : Int)] = M.ret (sprL t r x (chg x s c) n) := by
  have hl := chg_len (c := c) hs
  have sy := chg_sg (s := s) sx hc
  simp only [R_spread_of, F_spread_of]
  walk_at "ev"
  rw [changed_seat_is hx hs]
  walk_at "ev"
  rw [seats_apart_is hx (by omega)]
  walk_at "ev"
  refine Ev.eq (ev_loop (fun i ρ => ∃ s7, ρ = [some (.val (rul t r)), some (.val (.str (itN (ringL t r) i x))), some (.val (.int (s : Int))), some (.val (.str [c])), some (.val (.int (n : Int))), some (.val (.str (itN (ringL t r) i (chg x s c)))), some (.own (sprL t r x (chg x s c) i)), s7]) ⟨_, rfl⟩ ?_ ?_)
  · rintro k d ρ hk ⟨s7, rfl⟩
    obtain ⟨hk, rfl⟩ := get_rmap hk
    have sl := sprL_len t r x (chg x s c) k
    refine ⟨[(7, _)], rfl, ?_⟩
    walk_at "ev"
    rw [ring_after_is ht.1 hr (by rw [itN_ring_len]; omega) (by rw [itN_ring_len]; omega) (itN_ring_sg ht k sx)]
    walk_at "ev"
    rw [ring_after_is ht.1 hr (by rw [itN_ring_len]; omega) (by rw [itN_ring_len]; omega) (itN_ring_sg ht k sy)]
    walk_at "ev"
    rw [seats_apart_is (by rw [ringL_len, itN_ring_len]; omega) (by rw [ringL_len, ringL_len, itN_ring_len, itN_ring_len]; omega)]
    walk_at "ev"
    rw [← itN_succ (ringL t r) k x, ← itN_succ (ringL t r) k (chg x s c), ← sprL_succ]
    exact Ev.ret ⟨_, .inl rfl, _, rfl⟩
  · rintro ρ' ⟨s7, rfl⟩
    rw [List.length_map, List.length_range, Int.toNat_natCast]
    simp only [q_seqK_nx]
    rw [q_retOwn_o (i := 6) rfl]
    exact Ev.ret rfl
theorem law_apart_is {t : List Nat} {r n : Nat} {x y : List Nat} (ht : BinT t) (hr : r ≤ 2) (hx : x.length ≤ 10000) (hy : x.length = y.length) (sx : Sg r x) (sy : Sg r y) (hn : n ≤ 100000) : R__law_apart [.tup [.str t, .int (r : Int)], .str x, .str y, .int (n : Int)] = M.ret (apsL t r x y n) := by
  have al := apL_len x y
  simp only [R__law_apart, F__law_apart]
  walk_at "ev"
  rw [Int.toNat_natCast, comp_ap hx hy (fun _ => rfl) (fun _ => rfl) (by simp)]
  walk_at "ev"
  refine Ev.eq (ev_loop (fun i ρ => ∃ s5 s6, ρ = [some (.val (.tup [.str t, .int (r : Int)])), some (.val (.str (itN (ringL t r) i x))), some (.val (.str (itN (ringL t r) i y))), some (.val (.int (n : Int))), some (.own (apsL t r x y i)), s5, s6]) ⟨_, _, rfl⟩ ?_ ?_)
  · rintro k d ρ hk ⟨s5, s6, rfl⟩
    obtain ⟨hk, rfl⟩ := get_rmap hk
    have sl := apsL_len t r x y k
    have l1 : (ringL t r (itN (ringL t r) k x)).length = x.length := by rw [ringL_len, itN_ring_len]
    have l2 : (ringL t r (itN (ringL t r) k y)).length = y.length := by rw [ringL_len, itN_ring_len]
    have al := apL_len (ringL t r (itN (ringL t r) k x)) (ringL t r (itN (ringL t r) k y))
    refine ⟨[(5, _)], rfl, ?_⟩
    walk_at "ev"
    rw [law_beat_is ht hr (by rw [itN_ring_len]; omega) (itN_ring_sg ht k sx)]
    walk_at "ev"
    rw [law_beat_is ht hr (by rw [itN_ring_len]; omega) (itN_ring_sg ht k sy)]
    walk_at "ev"
    rw [Int.toNat_natCast, comp_ap (by omega) (by omega) (fun _ => rfl) (fun _ => rfl) (by simp)]
    walk_at "ev"
    rw [← itN_succ (ringL t r) k x, ← itN_succ (ringL t r) k y, ← apsL_succ]
    exact Ev.ret ⟨_, .inl rfl, _, _, rfl⟩
  · rintro ρ' ⟨s5, s6, rfl⟩
    rw [List.length_map, List.length_range, Int.toNat_natCast]
    simp only [q_seqK_nx]
    rw [q_retOwn_o (i := 4) rfl]
    exact Ev.ret rfl
end LW
set_option Elab.async false
set_option maxRecDepth 100000
set_option autoImplicit false
set_option linter.unusedVariables false
set_option maxHeartbeats 4000000
namespace LW
open PySem L2 PySem.Spec PyProof.Rows DL
local macro_rules | `(tactic| walk_at "dis") => `(tactic| first | assumption | omega | (simp only [List.length_map, List.length_range, List.length_append, List.length_cons, List.length_nil, List.length_reverse, List.length_take, List.length_drop, List.length_replicate, List.length_singleton]; omega) | (simp; done))
local macro_rules | `(tactic| walk_at "ev") => `(tactic| try simp -implicitDefEqProofs -dsimp (disch := walk_at "dis") only [↓q_seq, ↓q_seqK_nx, ↓q_seqK_rt, ↓q_seqK_rn, ↓q_seqK_bk, ↓q_seqK_ct, ↓q_runD, ↓q_runN, q_runK_rt, q_runK_rn, q_runK_nx, q_runKN_rn, ↓q_set, ↓q_setN, ↓q_ret, ↓q_retN, ↓q_drop, ↓q_if, ↓q_unp, q_unpK, ↓q_par, q_parK, ↓q_app, q_appK, ↓q_aug, q_augK, q_addF_int, q_addF_str, q_guard, ↓q_for, ↓q_forR, q_loopK_nx, q_loopK_ct, q_loopK_bk, q_loopK_rt, q_loopK_rn, ↓q_sNil, ↓q_e2, ↓q_t2, ↓q_e1, ↓q_cst, ↓q_aN, ↓q_aC, ↓q_call, ↓q_callN, ↓q_eN, ↓q_nLst, q_lstK, ↓q_eTup, q_tupK, ↓q_tVal, ↓q_tNot, ↓q_tAnd, ↓q_tOr, ↓q_eAnd, ↓q_eOr, ↓q_eNot, ↓q_eIf, ↓q_iAny, ↓q_iRg1, ↓q_iRg2, ↓q_iEnum, ↓q_nLc, ↓q_cT, ↓q_oN, ↓q_oS, ↓q_eSl, ↓q_eChain, ↓q_tBl, ↓q_eMake, ↓q_eMeth, ↓q_nMeth, ↓q_n1M, ↓q_iSeq, q_selK, q_self, ↓q_iTwo, ↓q_iTwoS, q_two2s, q_two2, ↓q_ext, q_extK, ↓q_nLc2, q_count, q_inE, q_notInE, q_is_non, q_is_str, q_is_int, q_is_tup, q_is_lst, q_isnt_non, q_isnt_str, q_isnt_int, q_isnt_tup, q_isnt_lst, q_list_l, q_list_t, q_tuple_l, q_tuple_t, q_max2, q_min2, q_sum, q_ixF_s, q_ixF_l, q_ixF_t, q_ixF_b, q_inF_s, q_inF_l, q_inF_t, q_lenG_s, q_lenG_l, q_lenG_t, q_lenG_d, q_lenG_dt, ↓q_setD, ↓q_dput, q_dputK, q_keyI, q_keyS, q_seeT, q_toDv, q_toDl, q_toDk, q_toDt, q_toDs0, q_toDs1, q_toDsm, q_fls0, q_fls1, q_flv, q_fll, q_flk, q_flt, q_flsm, q_sloV, q_sloK, q_sloT, q_sloL, q_sloLl, ↓q_oV, ↓q_oL, ↓q_oC, ↓q_oaN, ↓q_oaC, ↓q_oLst, q_oLstK, ↓q_setO, ↓q_parO, q_parOK, ↓q_parO3, q_parO3K, ↓q_appAt, q_appAtK, q_appAtK2, q_flatS, q_flatI, q_flatS2, q_mapv0, q_sloL0, bnd_ret, bnd_assoc, bnd_assoc', bnd_r, cnd_t, cnd_f, cnd_bnd, fail_bnd, bind_bnd, str01, List.cons.injEq, and_true, decide_true, decide_false, cut_toN, cut_fromN, cut_from1N, cut_to1N, cut_to1, cut_to2, cut_to3, cut_from1, cut_toM1, cut_fromM1, DL.startD, List.map_cons, List.map_nil, List.length_cons, List.length_nil, Nat.reduceAdd, Nat.reduceSub, List.replicate, List.cons_append, List.nil_append, view_eq, viewAt_cons, viewAt_nil, List.contains_cons, List.contains_nil, Nat.reduceBEq, Bool.or_true, Bool.or_false, Bool.true_or, Bool.false_or, if_true, Bool.false_eq_true, if_false, Option.map_some, Option.map_none, see_val, see_own, rd_0, rd_1, rd_2, rd_3, rd_4, rd_5, rd_6, rd_7, rd_8, rd_9, rd_10, rd_11, rd_12, rd_13, rd_14, rd_15, rd_16, rd_17, rd_18, rd_19, rd_20, rd_21, rd_22, rd_23, rd_24, rd_25, rd_26, rd_27, rd_28, rd_29, rd_30, rd_31, rd_32, rd_33, rd_34, rd_35, rd_36, rd_37, rd_38, rd_39, rd_40, rd_41, rd_42, rd_43, rd_44, rd_45, Int.reduceToNat, flat_int, flat_str, flat_bl, flat_non, flat_bag, flat_lst, flat_tup, flat_obj, List.all_cons, List.all_nil, Bool.and_true, Bool.true_and, Bool.and_false, Bool.false_and, keepIf_t, keepIf_f, frz_eq, frzAt_cons, frzAt_nil, List.set_cons_succ, List.set_cons_zero, subD_int, addD_int, negD_int, asI_int, asB_bl, truD_bl, lenF_lst, lenF_tup, intF_int, intF_bl, absF_int, ltD_int, leD_int, gtD_int, geD_int, eqD_int, eqD_str, neD_int, neD_str, inD_str, notInD_str, slD_lst, slD_scr, revD_lst, itemsD_lst, itemsD_tup, itemsD_str, Bool.not_true, Bool.not_false, ixD_l, ixD_t, ofSome, atI_0, atI_1, atI_2, atI_3, atI_4, atI_app, slotD_obj, propD_obj, propN_obj, isC_obj, get0, get1, get2, get3, getS, bName_eq, bTup_eq, bCons_eq, bNil_eq, setAll2_cons, setAll2_nil, setAllD_cons, setAllD_nil, wipeD_cons, wipeD_nil, isi_str_str, isi_int_int, isi_bool_int, List.getElem?_cons_zero, List.getElem?_cons_succ, lenF_str, modD_int, divD_int, addD_str, addD_lst, slD_str, revD_str, ixD_str, ixD_str1, ixD_strmod, rng1_int, rng2_int, mulD_intl, mulD_intr, intF_dig])
local macro_rules | `(tactic| walk_at "evl") => `(tactic| try simp -implicitDefEqProofs -dsimp (disch := walk_at "dis") only [↓q_seq, ↓q_seqK_nx, ↓q_seqK_rt, ↓q_seqK_rn, ↓q_seqK_bk, ↓q_seqK_ct, ↓q_runD, ↓q_runN, q_runK_rt, q_runK_rn, q_runK_nx, q_runKN_rn, ↓q_set, ↓q_setN, ↓q_ret, ↓q_retN, ↓q_drop, ↓q_if, ↓q_unp, q_unpK, ↓q_par, q_parK, ↓q_app, q_appK, ↓q_aug, q_augK, q_addF_int, q_addF_str, q_guard, ↓q_for, ↓q_forR, q_loopK_nx, q_loopK_ct, q_loopK_bk, q_loopK_rt, q_loopK_rn, ↓q_sNil, ↓q_e2, ↓q_t2, ↓q_e1, ↓q_cst, ↓q_aN, ↓q_aC, ↓q_call, ↓q_callN, ↓q_eN, ↓q_nLst, q_lstK, ↓q_eTup, q_tupK, ↓q_tVal, ↓q_tNot, ↓q_tAnd, ↓q_tOr, ↓q_eAnd, ↓q_eOr, ↓q_eNot, ↓q_eIf, ↓q_iAny, ↓q_iRg1, ↓q_iRg2, ↓q_iEnum, ↓q_nLc, ↓q_cT, ↓q_oN, ↓q_oS, ↓q_eSl, ↓q_eChain, ↓q_tBl, ↓q_eMake, ↓q_eMeth, ↓q_nMeth, ↓q_n1M, ↓q_iSeq, q_selK, q_self, ↓q_iTwo, ↓q_iTwoS, q_two2s, q_two2, ↓q_ext, q_extK, ↓q_nLc2, q_count, q_inE, q_notInE, q_is_non, q_is_str, q_is_int, q_is_tup, q_is_lst, q_isnt_non, q_isnt_str, q_isnt_int, q_isnt_tup, q_isnt_lst, q_list_l, q_list_t, q_tuple_l, q_tuple_t, q_max2, q_min2, q_sum, q_ixF_s, q_ixF_l, q_ixF_t, q_ixF_b, q_inF_s, q_inF_l, q_inF_t, q_lenG_s, q_lenG_l, q_lenG_t, q_lenG_d, q_lenG_dt, ↓q_setD, ↓q_dput, q_dputK, q_keyI, q_keyS, q_seeT, q_toDv, q_toDl, q_toDk, q_toDt, q_toDs0, q_toDs1, q_toDsm, q_fls0, q_fls1, q_flv, q_fll, q_flk, q_flt, q_flsm, q_sloV, q_sloK, q_sloT, q_sloL, q_sloLl, ↓q_oV, ↓q_oL, ↓q_oC, ↓q_oaN, ↓q_oaC, ↓q_oLst, q_oLstK, ↓q_setO, ↓q_parO, q_parOK, ↓q_parO3, q_parO3K, ↓q_appAt, q_appAtK, q_appAtK2, q_flatS, q_flatI, q_flatS2, q_mapv0, q_sloL0, bnd_ret, bnd_assoc, bnd_assoc', bnd_r, cnd_t, cnd_f, cnd_bnd, fail_bnd, bind_bnd, str01, List.cons.injEq, and_true, decide_true, decide_false, cut_toN, cut_fromN, cut_from1N, cut_to1N, cut_to1, cut_to2, cut_to3, cut_from1, cut_toM1, cut_fromM1, DL.startD, List.map_cons, List.map_nil, List.length_cons, List.length_nil, Nat.reduceAdd, Nat.reduceSub, List.replicate, List.cons_append, List.nil_append, view_eq, viewAt_cons, viewAt_nil, List.contains_cons, List.contains_nil, Nat.reduceBEq, Bool.or_true, Bool.or_false, Bool.true_or, Bool.false_or, if_true, Bool.false_eq_true, if_false, Option.map_some, Option.map_none, see_val, see_own, rd_0, rd_1, rd_2, rd_3, rd_4, rd_5, rd_6, rd_7, rd_8, rd_9, rd_10, rd_11, rd_12, rd_13, rd_14, rd_15, rd_16, rd_17, rd_18, rd_19, rd_20, rd_21, rd_22, rd_23, rd_24, rd_25, rd_26, rd_27, rd_28, rd_29, rd_30, rd_31, rd_32, rd_33, rd_34, rd_35, rd_36, rd_37, rd_38, rd_39, rd_40, rd_41, rd_42, rd_43, rd_44, rd_45, Int.reduceToNat, flat_int, flat_str, flat_bl, flat_non, flat_bag, flat_lst, flat_tup, flat_obj, List.all_cons, List.all_nil, Bool.and_true, Bool.true_and, Bool.and_false, Bool.false_and, keepIf_t, keepIf_f, frz_eq, frzAt_cons, frzAt_nil, List.set_cons_succ, List.set_cons_zero, subD_int, addD_int, negD_int, asI_int, asB_bl, truD_bl, lenF_lst, lenF_tup, intF_int, intF_bl, absF_int, ltD_int, leD_int, gtD_int, geD_int, eqD_int, eqD_str, neD_int, neD_str, inD_str, notInD_str, slD_lst, slD_scr, revD_lst, itemsD_lst, itemsD_tup, itemsD_str, Bool.not_true, Bool.not_false, ixD_l, ixD_t, ofSome, atI_0, atI_1, atI_2, atI_3, atI_4, atI_app, slotD_obj, propD_obj, propN_obj, isC_obj, get0, get1, get2, get3, getS, bName_eq, bTup_eq, bCons_eq, bNil_eq, setAll2_cons, setAll2_nil, setAllD_cons, setAllD_nil, wipeD_cons, wipeD_nil, isi_str_str, isi_int_int, isi_bool_int, List.getElem?_cons_zero, List.getElem?_cons_succ, lenF_str, modD_int, divD_int, addD_str, addD_lst, slD_str, revD_str, ixD_str, ixD_str1, ixD_strmod, rng1_int, rng2_int, mulD_intl, mulD_intr, intF_dig, q_loop0, q_loopN, q_comp0, q_compT])
local macro_rules | `(tactic| walk_at "evc") => `(tactic| try simp -implicitDefEqProofs -dsimp (disch := walk_at "dis") only [↓q_seq, ↓q_seqK_nx, ↓q_seqK_rt, ↓q_seqK_rn, ↓q_seqK_bk, ↓q_seqK_ct, ↓q_runD, ↓q_runN, q_runK_rt, q_runK_rn, q_runK_nx, q_runKN_rn, ↓q_set, ↓q_setN, ↓q_ret, ↓q_retN, ↓q_drop, ↓q_if, ↓q_unp, q_unpK, ↓q_par, q_parK, ↓q_app, q_appK, ↓q_aug, q_augK, q_addF_int, q_addF_str, q_guard, ↓q_for, ↓q_forR, q_loopK_nx, q_loopK_ct, q_loopK_bk, q_loopK_rt, q_loopK_rn, ↓q_sNil, ↓q_e2, ↓q_t2, ↓q_e1, ↓q_cst, ↓q_aN, ↓q_aC, ↓q_call, ↓q_callN, ↓q_eN, ↓q_nLst, q_lstK, ↓q_eTup, q_tupK, ↓q_tVal, ↓q_tNot, ↓q_tAnd, ↓q_tOr, ↓q_eAnd, ↓q_eOr, ↓q_eNot, ↓q_eIf, ↓q_iAny, ↓q_iRg1, ↓q_iRg2, ↓q_iEnum, ↓q_nLc, ↓q_cT, ↓q_oN, ↓q_oS, ↓q_eSl, ↓q_eChain, ↓q_tBl, ↓q_eMake, ↓q_eMeth, ↓q_nMeth, ↓q_n1M, ↓q_iSeq, q_selK, q_self, ↓q_iTwo, ↓q_iTwoS, q_two2s, q_two2, ↓q_ext, q_extK, ↓q_nLc2, q_count, q_inE, q_notInE, q_is_non, q_is_str, q_is_int, q_is_tup, q_is_lst, q_isnt_non, q_isnt_str, q_isnt_int, q_isnt_tup, q_isnt_lst, q_list_l, q_list_t, q_tuple_l, q_tuple_t, q_max2, q_min2, q_sum, q_ixF_s, q_ixF_l, q_ixF_t, q_ixF_b, q_inF_s, q_inF_l, q_inF_t, q_lenG_s, q_lenG_l, q_lenG_t, q_lenG_d, q_lenG_dt, ↓q_setD, ↓q_dput, q_dputK, q_keyI, q_keyS, q_seeT, q_toDv, q_toDl, q_toDk, q_toDt, q_toDs0, q_toDs1, q_toDsm, q_fls0, q_fls1, q_flv, q_fll, q_flk, q_flt, q_flsm, q_sloV, q_sloK, q_sloT, q_sloL, q_sloLl, ↓q_oV, ↓q_oL, ↓q_oC, ↓q_oaN, ↓q_oaC, ↓q_oLst, q_oLstK, ↓q_setO, ↓q_parO, q_parOK, ↓q_parO3, q_parO3K, ↓q_appAt, q_appAtK, q_appAtK2, q_flatS, q_flatI, q_flatS2, q_mapv0, q_sloL0, bnd_ret, bnd_assoc, bnd_assoc', bnd_r, cnd_t, cnd_f, cnd_bnd, fail_bnd, bind_bnd, str01, List.cons.injEq, and_true, decide_true, decide_false, cut_toN, cut_fromN, cut_from1N, cut_to1N, cut_to1, cut_to2, cut_to3, cut_from1, cut_toM1, cut_fromM1, DL.startD, List.map_cons, List.map_nil, List.length_cons, List.length_nil, Nat.reduceAdd, Nat.reduceSub, List.replicate, List.cons_append, List.nil_append, view_eq, viewAt_cons, viewAt_nil, List.contains_cons, List.contains_nil, Nat.reduceBEq, Bool.or_true, Bool.or_false, Bool.true_or, Bool.false_or, if_true, Bool.false_eq_true, if_false, Option.map_some, Option.map_none, see_val, see_own, rd_0, rd_1, rd_2, rd_3, rd_4, rd_5, rd_6, rd_7, rd_8, rd_9, rd_10, rd_11, rd_12, rd_13, rd_14, rd_15, rd_16, rd_17, rd_18, rd_19, rd_20, rd_21, rd_22, rd_23, rd_24, rd_25, rd_26, rd_27, rd_28, rd_29, rd_30, rd_31, rd_32, rd_33, rd_34, rd_35, rd_36, rd_37, rd_38, rd_39, rd_40, rd_41, rd_42, rd_43, rd_44, rd_45, Int.reduceToNat, flat_int, flat_str, flat_bl, flat_non, flat_bag, flat_lst, flat_tup, flat_obj, List.all_cons, List.all_nil, Bool.and_true, Bool.true_and, Bool.and_false, Bool.false_and, keepIf_t, keepIf_f, frz_eq, frzAt_cons, frzAt_nil, List.set_cons_succ, List.set_cons_zero, subD_int, addD_int, negD_int, asI_int, asB_bl, truD_bl, lenF_lst, lenF_tup, intF_int, intF_bl, absF_int, ltD_int, leD_int, gtD_int, geD_int, eqD_int, eqD_str, neD_int, neD_str, inD_str, notInD_str, slD_lst, slD_scr, revD_lst, itemsD_lst, itemsD_tup, itemsD_str, Bool.not_true, Bool.not_false, ixD_l, ixD_t, ofSome, atI_0, atI_1, atI_2, atI_3, atI_4, atI_app, slotD_obj, propD_obj, propN_obj, isC_obj, get0, get1, get2, get3, getS, bName_eq, bTup_eq, bCons_eq, bNil_eq, setAll2_cons, setAll2_nil, setAllD_cons, setAllD_nil, wipeD_cons, wipeD_nil, isi_str_str, isi_int_int, isi_bool_int, List.getElem?_cons_zero, List.getElem?_cons_succ, lenF_str, modD_int, divD_int, addD_str, addD_lst, slD_str, revD_str, ixD_str, ixD_str1, ixD_strmod, rng1_int, rng2_int, mulD_intl, mulD_intr, intF_dig, q_comp0, q_compT])
local macro_rules | `(tactic| walk_at "env") => `(tactic| try simp -implicitDefEqProofs only [List.all_cons, List.all_nil, Bool.and_true, Bool.true_and, setAll2_cons, setAll2_nil, bName_eq, env0, List.replicate, flat_int, flat_str, flat_bl, flat_non, flat_bag, flat_lst, flat_tup, flat_obj, keepIf_t, keepIf_f, frz_eq, frzAt_cons, frzAt_nil, List.contains_cons, List.contains_nil, Nat.reduceBEq, Nat.reduceAdd, Bool.or_true, Bool.or_false, Bool.true_or, if_true, Bool.false_eq_true, if_false, Option.map_some, Option.map_none, see_val, see_own, List.set_cons_succ, List.set_cons_zero])
/-! path_of -/
def F_path_of : Env2 → M Out :=
  (seqM (parOM 2 3 [] (oaC (oL (nLst aN)) (oaC (oC (.k [] [])) oaN)))
  (seqM (whileM [1, 3] (t2 (inF true) (rdEnv 1) (rdEnv 3))
  (seqM (dputM 3 [1] (cst (.bl true)) (rdEnv 1))
  (seqM (appM 2 [1] (rdEnv 1))
  (setM 1 [0, 1] (eMeth 0 R_Rule_ring_after (rdEnv 0) (aC (rdEnv 1) aN))))) 1000000)
  (retOwn 2)))
def R_path_of : List D → M (List D) := runN 4 F_path_of
/-! fate_of -/
def F_fate_of : Env2 → M Out :=
  (seqM (setNM 2 [0, 1] (nCall R_path_of (aC (rdEnv 0) (aC (rdEnv 1) aN))))
  (seqM (setM 3 [0, 2] (e2 indexD (rdEnv 2) (eMeth 0 R_Rule_ring_after (rdEnv 0) (aC (e2 ixF (rdEnv 2) (e1 negD (cst (.int 1)))) aN))))
  (retM [2, 3] (eTup (aC (rdEnv 3) (aC (e2 subD (eCall lenG (aC (rdEnv 2) aN)) (rdEnv 3)) aN))))))
def R_fate_of : List D → M D := runD 4 F_fate_of
/-! _law_run -/
def F__law_run : Env2 → M Out :=
  (seqM (setNM 2 [1] (nLst (aC (rdEnv 1) aN)))
  (seqM (forRM [] (iRg1 (aC (cst (.int 5000)) aN)) (bName 3)
  (seqM (setM 4 [0, 2] (eCall R__law_beat (aC (rdEnv 0) (aC (e2 ixF (rdEnv 2) (e1 negD (cst (.int 1)))) aN))))
  (seqM (ifM [2, 4] (t2 (inF false) (rdEnv 4) (rdEnv 2))
  (fun ρ => M.ret (.bk ρ))
  sNil)
  (appM 2 [4] (rdEnv 4)))))
  (retM [0, 2] (eTup (aC (rdEnv 2) (aC (e2 indexD (rdEnv 2) (eCall R__law_beat (aC (rdEnv 0) (aC (e2 ixF (rdEnv 2) (e1 negD (cst (.int 1)))) aN)))) aN))))))
def R__law_run : List D → M D := runD 5 F__law_run
/-! ### no more unlike stands than there are -/
theorem pigeon : ∀ (N : Nat) (l : List Nat), l.Nodup → (∀ x ∈ l, x < N) → l.length ≤ N
  | 0, [], _, _ => Nat.le_refl _
  | 0, x :: _, _, h => absurd (h x (by simp)) (by omega)
  | N + 1, l, nd, h => by
    by_cases hm : N ∈ l
    · have h1 := pigeon N (l.erase N) (nd.erase N) fun x hx => by
        have hx2 := List.mem_of_mem_erase hx
        have : x ≠ N := fun z => by
          subst z
          exact (List.Nodup.not_mem_erase nd) hx
        have := h x hx2
        omega
      rw [List.length_erase_of_mem hm] at h1
      omega
    · have h1 := pigeon N l nd fun x hx => by
        have : x ≠ N := fun z => hm (by rw [← z]; exact hx)
        have := h x hx
        omega
      omega
def code (b : Nat) : List Nat → Nat
  | [] => 0
  | c :: r => (c - 48) + b * code b r
theorem code_lt {r : Nat} : ∀ {x : List Nat}, Sg r x → code (r + 2) x < (r + 2) ^ x.length
  | [], _ => by simp [code]
  | c :: y, h => by
    have ih := code_lt (x := y) fun d hd => h d (by simp [hd])
    have hc := h c (by simp)
    simp only [code, List.length_cons, Nat.pow_succ]
    have h1 : (c - 48) ≤ r + 1 := by omega
    have h2 : (r + 2) * (code (r + 2) y + 1) ≤ (r + 2) * (r + 2) ^ y.length := Nat.mul_le_mul_left _ ih
    rw [Nat.mul_add] at h2
    rw [Nat.mul_comm ((r + 2) ^ y.length)]
    omega
theorem code_inj {r : Nat} : ∀ {x y : List Nat}, Sg r x → Sg r y → x.length = y.length → code (r + 2) x = code (r + 2) y → x = y
  | [], [], _, _, _, _ => rfl
  | c :: x, d :: y, h, h', hl, e => by
    have hc := h c (by simp)
    have hd := h' d (by simp)
    simp only [code] at e
    have e1 : (c - 48) % (r + 2) = (d - 48) % (r + 2) := by
      have := congrArg (· % (r + 2)) e
      simpa [Nat.add_mul_mod_self_left] using this
    rw [Nat.mod_eq_of_lt (by omega), Nat.mod_eq_of_lt (by omega)] at e1
    have e2 : (r + 2) * code (r + 2) x = (r + 2) * code (r + 2) y := by omega
    have e3 := Nat.eq_of_mul_eq_mul_left (by omega) e2
    rw [code_inj (x := x) (y := y) (fun z hz => h z (by simp [hz])) (fun z hz => h' z (by simp [hz])) (by simpa using hl) e3]
    congr 1
    omega
  | [], _ :: _, _, _, hl, _ => by simp at hl
  | _ :: _, [], _, _, hl, _ => by simp at hl
theorem nodup_map_inj {α β : Type} {f : α → β} : ∀ {l : List α}, l.Nodup → (∀ a ∈ l, ∀ b ∈ l, f a = f b → a = b) → (l.map f).Nodup
  | [], _, _ => List.nodup_nil
  | a :: l, h, hi => by
    rw [List.nodup_cons] at h
    rw [List.map_cons, List.nodup_cons]
    refine ⟨fun hm => ?_, nodup_map_inj h.2 fun x hx y hy => hi x (by simp [hx]) y (by simp [hy])⟩
    obtain ⟨b, hb, e⟩ := List.mem_map.mp hm
    have := hi b (by simp [hb]) a (by simp) e
    subst this
    exact h.1 hb
theorem stands_few {r n : Nat} {ls : List (List Nat)} (nd : ls.Nodup) (h : ∀ x ∈ ls, Sg r x ∧ x.length = n) : ls.length ≤ (r + 2) ^ n := by
  have := pigeon ((r + 2) ^ n) (ls.map (code (r + 2))) (nodup_map_inj nd fun a ha b hb e => code_inj (h a ha).1 (h b hb).1 ((h a ha).2.trans (h b hb).2.symm) e) fun x hx => by
    obtain ⟨y, hy, rfl⟩ := List.mem_map.mp hx
    rw [← (h y hy).2]
    exact code_lt (h y hy).1
  simpa using this
/-! ### the first stands of a run -/
def itL {α : Type} (f : α → α) (x : α) (m : Nat) : List α := (List.range m).map fun i => itN f i x
theorem itL_len {α : Type} (f : α → α) (x : α) (m : Nat) : (itL f x m).length = m := by simp [itL]
theorem itL_succ {α : Type} (f : α → α) (x : α) (m : Nat) : itL f x (m + 1) = itL f x m ++ [itN f m x] := by
  unfold itL
  rw [List.range_succ, List.map_append, List.map_singleton]
theorem mem_itL {α : Type} {f : α → α} {x y : α} {m : Nat} : y ∈ itL f x m ↔ ∃ i, i < m ∧ itN f i x = y := by
  unfold itL
  simp
theorem itL_get {α : Type} {f : α → α} {x : α} {m i : Nat} (h : i < m) : (itL f x m)[i]? = some (itN f i x) := by
  unfold itL
  rw [List.getElem?_map, List.getElem?_range h]; rfl
/-- m stands are unlike, and the next one is one of them -/
structure IsPath {α : Type} (f : α → α) (x : α) (m : Nat) : Prop where
  nd : (itL f x m).Nodup
  back : itN f m x ∈ itL f x m
theorem IsPath.pos {α : Type} {f : α → α} {x : α} {m : Nat} (h : IsPath f x m) : 0 < m := by
  obtain ⟨i, hi, _⟩ := mem_itL.mp h.back
  omega
theorem IsPath.uniq {α : Type} {f : α → α} {x : α} {m k : Nat} (h : IsPath f x m) (h' : IsPath f x k) : m = k := by
  have aux : ∀ {m k : Nat}, IsPath f x m → IsPath f x k → ¬ m < k := by
    intro m k h h' hlt
    obtain ⟨i, hi, e⟩ := mem_itL.mp h.back
    have nd := h'.nd
    have h1 := itL_get (f := f) (x := x) (m := k) (i := m) hlt
    have h2 := itL_get (f := f) (x := x) (m := k) (i := i) (by omega)
    rw [e] at h2
    have := (List.getElem?_inj (by rw [itL_len]; exact hlt) nd).mp (h1.trans h2.symm)
    omega
  have a1 := aux h h'
  have a2 := aux h' h
  omega
theorem itL_few {t : List Nat} {r : Nat} {x : List Nat} (ht : BinT t) (hx : Sg r x) {m : Nat} (nd : (itL (ringL t r) x m).Nodup) : m ≤ (r + 2) ^ x.length := by
  have := stands_few (r := r) (n := x.length) nd fun y hy => by
    obtain ⟨i, _, rfl⟩ := mem_itL.mp hy
    exact ⟨itN_ring_sg ht i hx, itN_ring_len t r i x⟩
  rwa [itL_len] at this
theorem nodup_snoc {α : Type} {l : List α} {a : α} (h : l.Nodup) (ha : a ∉ l) : (l ++ [a]).Nodup := by
  rw [List.nodup_append]
  refine ⟨h, by simp, fun b hb c hc z => ?_⟩
  simp at hc
  subst hc
  subst z
  exact ha hb
abbrev strL (ls : List (List Nat)) : List D := ls.map D.str
theorem strL_flat (ls : List (List Nat)) : (strL ls).all D.flat = true := by simp [strL, D.flat]
theorem path_of_is {t : List Nat} {r : Nat} {x : List Nat} (ht : BinT t) (hr : r ≤ 2) (h0 : 0 < x.length) (hx : Sg r x) (hz : x.length ≤ 100) (hb : (r + 2) ^ x.length ≤ 100000) : ∃ m, IsPath (ringL t r) x m ∧ m ≤ (r + 2) ^ x.length ∧ R_path_of [rul t r, .str x] = M.ret (strL (itL (ringL t r) x m)) := by
  have key : Ev (R_path_of [rul t r, .str x]) fun ds => ∃ m, IsPath (ringL t r) x m ∧ ds = strL (itL (ringL t r) x m) := by
    simp only [R_path_of, F_path_of]
    walk_at "ev"
    refine Ev.bind (ev_while ((r + 2) ^ x.length) (fun i ρ => (itL (ringL t r) x i).Nodup ∧ ρ = [some (.val (rul t r)), some (.val (.str (itN (ringL t r) i x))), some (.own (strL (itL (ringL t r) x i))), some (.tr (.k ((itL (ringL t r) x i).map kS) ((itL (ringL t r) x i).map fun _ => O.v (.bl true))))])
      (P := fun o => ∃ m, IsPath (ringL t r) x m ∧ ∃ s1 s3, o = .nx [some (.val (rul t r)), s1, some (.own (strL (itL (ringL t r) x m))), s3]) ?_ 1000000 0 _ (by omega) ⟨List.nodup_nil, rfl⟩) ?_
    · rintro i ρ ⟨nd, rfl⟩
      have hi := itL_few ht hx nd
      have ll := itL_len (ringL t r) x i
      walk_at "ev"
      rw [toDs_map (fun _ => D.bl true), inF_keys true _ _ _ (by simp)]
      by_cases hm : itN (ringL t r) i x ∈ itL (ringL t r) x i
      · refine .inl ⟨?_, i, ⟨nd, hm⟩, _, _, rfl⟩
        rw [decide_eq_true hm]
        rfl
      · refine .inr ⟨by rw [decide_eq_false hm]; rfl, ?_, ?_⟩
        · have nd2 := nodup_snoc nd hm
          rw [← itL_succ] at nd2
          have := itL_few ht hx nd2
          omega
        · walk_at "ev"
          have hk : kS (itN (ringL t r) i x) ∉ (itL (ringL t r) x i).map kS := fun z => hm (mem_kS.mp z)
          rw [setKs_new hk, setVs_new hk]
          rw [ring_after_is ht.1 hr (by rw [itN_ring_len]; omega) (by rw [itN_ring_len]; omega) (itN_ring_sg ht i hx)]
          walk_at "ev"
          refine Ev.ret ⟨_, rfl, ?_, ?_⟩
          · rw [itL_succ]; exact nodup_snoc nd hm
          · rw [itL_succ, itN_succ]
            simp only [strL, List.map_append]
            rfl
    · rintro o ⟨m, hp, s1, s3, rfl⟩
      simp only [q_seqK_nx]
      rw [q_retOwn_o (i := 2) rfl]
      exact Ev.ret ⟨m, hp, rfl⟩
  obtain ⟨ds, e, m, hp, rfl⟩ := key
  exact ⟨m, hp, itL_few ht hx hp.nd, e⟩
theorem strL_snoc (f : List Nat → List Nat) (x : List Nat) (m : Nat) : strL (itL f x (m + 1)) = strL (itL f x m) ++ [.str (itN f m x)] := by
  rw [itL_succ]
  simp only [strL, List.map_append]
  rfl
theorem path_last {f : List Nat → List Nat} {x : List Nat} {m : Nat} (h : 0 < m) : atI (strL (itL f x m)) (-1) = some (.str (itN f (m - 1) x)) := by
  obtain ⟨k, rfl⟩ : ∃ k, m = k + 1 := ⟨m - 1, by omega⟩
  rw [itL_succ, strL, List.map_append]
  exact atI_app _ _
def early (f : List Nat → List Nat) (x : List Nat) (m : Nat) : Nat := (itL f x m).idxOf (itN f m x)
theorem IsPath.early_lt {f : List Nat → List Nat} {x : List Nat} {m : Nat} (h : IsPath f x m) : early f x m < m := by
  have := List.idxOf_lt_length_of_mem h.back
  rwa [itL_len] at this
theorem IsPath.early_eq {f : List Nat → List Nat} {x : List Nat} {m : Nat} (h : IsPath f x m) : itN f (early f x m) x = itN f m x := by
  have h1 := itL_get (f := f) (x := x) h.early_lt
  have h2 : (itL f x m)[early f x m]? = some (itN f m x) := by
    unfold early
    rw [List.getElem?_eq_getElem (List.idxOf_lt_length_of_mem h.back), List.getElem_idxOf]
  rw [h1] at h2
  exact Option.some.inj h2
theorem fate_of_is {t : List Nat} {r : Nat} {x : List Nat} {m : Nat} (ht : BinT t) (hr : r ≤ 2) (h0 : 0 < x.length) (hx : Sg r x) (hz : x.length ≤ 100) (hb : (r + 2) ^ x.length ≤ 100000) (hp : IsPath (ringL t r) x m) : R_fate_of [rul t r, .str x] = M.ret (.tup [.int (early (ringL t r) x m : Int), .int ((m : Int) - (early (ringL t r) x m : Int))]) := by
  obtain ⟨k, hk, _, e⟩ := path_of_is ht hr h0 hx hz hb
  have := hk.uniq hp
  subst this
  have hpos := hp.pos
  have hl := itL_len (ringL t r) x k
  simp only [R_fate_of, F_fate_of]
  walk_at "ev"
  rw [e]
  walk_at "ev"
  rw [path_last hpos]
  walk_at "ev"
  rw [ring_after_is ht.1 hr (by rw [itN_ring_len]; omega) (by rw [itN_ring_len]; omega) (itN_ring_sg ht _ hx), ← itN_succ (ringL t r), show k - 1 + 1 = k by omega]
  walk_at "ev"
  rw [indexD_strs hp.back]
  walk_at "ev"
  rw [List.length_map, hl]
  rfl
theorem law_run_is {t : List Nat} {r : Nat} {x : List Nat} (ht : BinT t) (hr : r ≤ 2) (hx : Sg r x) (hz : x.length ≤ 100) (hb : (r + 2) ^ x.length ≤ 4000) : ∃ m, IsPath (ringL t r) x m ∧ m ≤ (r + 2) ^ x.length ∧ R__law_run [.tup [.str t, .int (r : Int)], .str x] = M.ret (.tup [.lst (strL (itL (ringL t r) x m)), .int (early (ringL t r) x m : Int)]) := by
  have key : Ev (R__law_run [.tup [.str t, .int (r : Int)], .str x]) fun d => ∃ m, IsPath (ringL t r) x m ∧ d = .tup [.lst (strL (itL (ringL t r) x m)), .int (early (ringL t r) x m : Int)] := by
    simp only [R__law_run, F__law_run]
    walk_at "ev"
    refine Ev.bind (ev_loopW (fun i ρ => (itL (ringL t r) x (i + 1)).Nodup ∧ ∃ s3 s4, ρ = [some (.val (.tup [.str t, .int (r : Int)])), some (.val (.str x)), some (.own (strL (itL (ringL t r) x (i + 1)))), s3, s4])
      (P := fun o => ∃ m, IsPath (ringL t r) x m ∧ ∃ s3 s4, o = .nx [some (.val (.tup [.str t, .int (r : Int)])), some (.val (.str x)), some (.own (strL (itL (ringL t r) x m))), s3, s4]) ⟨by simp [itL], _, _, rfl⟩ ?_ ?_) ?_
    · rintro i d ρ hd ⟨nd, s3, s4, rfl⟩
      have hi := itL_few ht hx nd
      have ll := itL_len (ringL t r) x (i + 1)
      refine ⟨[(3, d)], rfl, ?_⟩
      walk_at "ev"
      rw [path_last (by omega), show i + 1 - 1 = i by omega]
      walk_at "ev"
      rw [law_beat_is ht hr (by rw [itN_ring_len]; omega) (itN_ring_sg ht _ hx), ← itN_succ (ringL t r)]
      walk_at "ev"
      rw [inE_strs]
      walk_at "ev"
      by_cases hm : itN (ringL t r) (i + 1) x ∈ itL (ringL t r) x (i + 1)
      · rw [cnd_dt hm]
        walk_at "ev"
        exact Ev.ret ⟨i + 1, ⟨nd, hm⟩, _, _, rfl⟩
      · rw [cnd_df hm]
        walk_at "ev"
        rw [← strL_snoc]
        refine Ev.ret ⟨_, rfl, ?_, _, _, rfl⟩
        rw [itL_succ]; exact nodup_snoc nd hm
    · rintro ρ ⟨nd, _⟩
      have hi := itL_few ht hx nd
      simp at hi
      omega
    · rintro o ⟨m, hp, s3, s4, rfl⟩
      have hpos := hp.pos
      have ll := itL_len (ringL t r) x m
      walk_at "ev"
      rw [path_last hpos]
      walk_at "ev"
      rw [law_beat_is ht hr (by rw [itN_ring_len]; omega) (itN_ring_sg ht _ hx), ← itN_succ (ringL t r), show m - 1 + 1 = m by omega]
      walk_at "ev"
      rw [indexD_strs hp.back]
      walk_at "ev"
      exact Ev.ret ⟨m, hp, rfl⟩
  obtain ⟨d, e, m, hp, rfl⟩ := key
  exact ⟨m, hp, itL_few ht hx hp.nd, e⟩
theorem strL_okd {r : Nat} {ls : List (List Nat)} (hr : r ≤ 2) (h : ∀ x ∈ ls, Sg r x ∧ x.length ≤ 40) {w : Nat} (hw : ls.length * 412 + 3 ≤ w) : Okd 1 w (.lst (strL ls)) := by
  refine (Okd.lst (k := 0) (w := 410) fun d hd => ?_).mono (Nat.le_refl _) (by rw [List.length_map]; omega)
  obtain ⟨x, hx, rfl⟩ := List.mem_map.mp hd
  exact sg_okd hr (h x hx).1 (by have := (h x hx).2; omega)
theorem itL_all {t : List Nat} {r : Nat} {x : List Nat} (ht : BinT t) (hx : Sg r x) (m : Nat) : ∀ y ∈ itL (ringL t r) x m, Sg r y ∧ y.length = x.length := fun y hy => by
  obtain ⟨i, _, rfl⟩ := mem_itL.mp hy
  exact ⟨itN_ring_sg ht i hx, itN_ring_len t r i x⟩
theorem sizes_few {r n : Nat} (h : (r = 0 ∧ n ≤ 8) ∨ (r = 1 ∧ n ≤ 7) ∨ (r = 2 ∧ n ≤ 5)) : (r + 2) ^ n ≤ 4000 := by
  rcases h with ⟨rfl, h⟩ | ⟨rfl, h⟩ | ⟨rfl, h⟩
  · exact Nat.le_trans (Nat.pow_le_pow_right (by decide) h) (by decide)
  · exact Nat.le_trans (Nat.pow_le_pow_right (by decide) h) (by decide)
  · exact Nat.le_trans (Nat.pow_le_pow_right (by decide) h) (by decide)
end LW
set_option Elab.async false
set_option maxRecDepth 100000
set_option autoImplicit false
set_option linter.unusedVariables false
set_option maxHeartbeats 4000000
namespace DL
open PySem L2
/-! ### == of data without truths -/
mutual
def D.pl : D → Bool
  | .non => true
  | .int _ => true
  | .str _ => true
  | .lst xs => D.pls xs
  | .tup xs => D.pls xs
  | _ => false
def D.pls : List D → Bool
  | [] => true
  | x :: r => x.pl && D.pls r
end
theorem toPy_lst {xs : List D} {a : PyData} (h : toPy (.lst xs) = some a) : ∃ es, toPyL xs = some es ∧ a = .list es := by
  unfold toPy at h
  cases e : toPyL xs with
  | none => rw [e] at h; cases h
  | some es => rw [e] at h; cases h; exact ⟨es, rfl, rfl⟩
theorem toPy_tup {xs : List D} {a : PyData} (h : toPy (.tup xs) = some a) : ∃ es, toPyL xs = some es ∧ a = .tuple es := by
  unfold toPy at h
  cases e : toPyL xs with
  | none => rw [e] at h; cases h
  | some es => rw [e] at h; cases h; exact ⟨es, rfl, rfl⟩
theorem toPyL_cons {x : D} {xs : List D} {es : List PyData} (h : toPyL (x :: xs) = some es) : ∃ a r, toPy x = some a ∧ toPyL xs = some r ∧ es = a :: r := by
  unfold toPyL at h
  cases e : toPy x with
  | none => rw [e] at h; cases h
  | some a =>
    rw [e] at h
    cases e2 : toPyL xs with
    | none => rw [e2] at h; cases h
    | some r => rw [e2] at h; cases h; exact ⟨a, r, rfl, rfl, rfl⟩
theorem str_beq2 (a b : List Nat) : ((⟨a.toArray⟩ : Str) == ⟨b.toArray⟩) = true ↔ a = b := by
  rw [str_beq, beq_iff_eq]
mutual
theorem eqv_pl : ∀ (d e : D) (a b : PyData), d.pl = true → e.pl = true → toPy d = some a → toPy e = some b → (PyData.eqv a b = true ↔ d = e)
  | .non, e, a, b, _, h2, ha, hb => by
    unfold toPy at ha
    cases ha
    cases e with
    | non => unfold toPy at hb; cases hb; simp [PyData.eqv]
    | int i => unfold toPy at hb; cases hb; simp [PyData.eqv]
    | str i => unfold toPy at hb; cases hb; simp [PyData.eqv]
    | lst xs => obtain ⟨es, _, rfl⟩ := toPy_lst hb; simp [PyData.eqv]
    | tup xs => obtain ⟨es, _, rfl⟩ := toPy_tup hb; simp [PyData.eqv]
    | _ => cases h2
  | .int i, e, a, b, _, h2, ha, hb => by
    unfold toPy at ha
    cases ha
    cases e with
    | non => unfold toPy at hb; cases hb; simp [PyData.eqv]
    | int i => unfold toPy at hb; cases hb; simp [PyData.eqv]
    | str i => unfold toPy at hb; cases hb; simp [PyData.eqv]
    | lst xs => obtain ⟨es, _, rfl⟩ := toPy_lst hb; simp [PyData.eqv]
    | tup xs => obtain ⟨es, _, rfl⟩ := toPy_tup hb; simp [PyData.eqv]
    | _ => cases h2
  | .str i, e, a, b, _, h2, ha, hb => by
    unfold toPy at ha
    cases ha
    cases e with
    | non => unfold toPy at hb; cases hb; simp [PyData.eqv]
    | int i => unfold toPy at hb; cases hb; simp [PyData.eqv]
    | str j => unfold toPy at hb; cases hb; show ((⟨i.toArray⟩ : Str) == ⟨j.toArray⟩) = true ↔ _; rw [str_beq2]; simp
    | lst xs => obtain ⟨es, _, rfl⟩ := toPy_lst hb; simp [PyData.eqv]
    | tup xs => obtain ⟨es, _, rfl⟩ := toPy_tup hb; simp [PyData.eqv]
    | _ => cases h2
  | .lst xs, e, a, b, h1, h2, ha, hb => by
    obtain ⟨es, hx, rfl⟩ := toPy_lst ha
    cases e with
    | non => unfold toPy at hb; cases hb; simp [PyData.eqv]
    | int i => unfold toPy at hb; cases hb; simp [PyData.eqv]
    | str i => unfold toPy at hb; cases hb; simp [PyData.eqv]
    | lst ys =>
      obtain ⟨fs, hy, rfl⟩ := toPy_lst hb
      have := eqvAll_pl xs ys es fs h1 h2 hx hy
      show PyData.eqvAll es fs = true ↔ _
      rw [this]
      simp
    | tup xs => obtain ⟨es, _, rfl⟩ := toPy_tup hb; simp [PyData.eqv]
    | _ => cases h2
  | .tup xs, e, a, b, h1, h2, ha, hb => by
    obtain ⟨es, hx, rfl⟩ := toPy_tup ha
    cases e with
    | non => unfold toPy at hb; cases hb; simp [PyData.eqv]
    | int i => unfold toPy at hb; cases hb; simp [PyData.eqv]
    | str i => unfold toPy at hb; cases hb; simp [PyData.eqv]
    | tup ys =>
      obtain ⟨fs, hy, rfl⟩ := toPy_tup hb
      have := eqvAll_pl xs ys es fs h1 h2 hx hy
      show PyData.eqvAll es fs = true ↔ _
      rw [this]
      simp
    | lst xs => obtain ⟨es, _, rfl⟩ := toPy_lst hb; simp [PyData.eqv]
    | _ => cases h2
  | .bl _, _, _, _, h1, _, _, _ => by cases h1
  | .dct _ _, _, _, _, h1, _, _, _ => by cases h1
  | .dcT _ _, _, _, _, h1, _, _, _ => by cases h1
  | .obj _ _, _, _, _, h1, _, _, _ => by cases h1
  | .bag _, _, _, _, h1, _, _, _ => by cases h1
  | .scr _, _, _, _, h1, _, _, _ => by cases h1
theorem eqvAll_pl : ∀ (xs ys : List D) (es fs : List PyData), D.pls xs = true → D.pls ys = true → toPyL xs = some es → toPyL ys = some fs → (PyData.eqvAll es fs = true ↔ xs = ys)
  | [], [], es, fs, _, _, hx, hy => by unfold toPyL at hx hy; cases hx; cases hy; simp [PyData.eqvAll]
  | [], y :: ys, es, fs, _, _, hx, hy => by
    obtain ⟨b, r, _, _, rfl⟩ := toPyL_cons hy
    unfold toPyL at hx; cases hx; simp [PyData.eqvAll]
  | x :: xs, [], es, fs, _, _, hx, hy => by
    obtain ⟨b, r, _, _, rfl⟩ := toPyL_cons hx
    unfold toPyL at hy; cases hy; simp [PyData.eqvAll]
  | x :: xs, y :: ys, es, fs, h1, h2, hx, hy => by
    obtain ⟨a, r, ha, hr, rfl⟩ := toPyL_cons hx
    obtain ⟨b, s, hb, hs, rfl⟩ := toPyL_cons hy
    have h1 : (x.pl && D.pls xs) = true := h1
    have h2 : (y.pl && D.pls ys) = true := h2
    rw [Bool.and_eq_true] at h1 h2
    show (PyData.eqv a b && PyData.eqvAll r s) = true ↔ _
    rw [Bool.and_eq_true, eqv_pl x y a b h1.1 h2.1 ha hb, eqvAll_pl xs ys r s h1.2 h2.2 hr hs]
    simp
end
noncomputable def eqB (d e : D) : Bool := @decide (d = e) (Classical.propDecidable _)
theorem eqB_t {d e : D} (h : d = e) : eqB d e = true := by unfold eqB; exact @decide_eq_true _ (Classical.propDecidable _) h
theorem eqB_f {d e : D} (h : d ≠ e) : eqB d e = false := by unfold eqB; exact @decide_eq_false _ (Classical.propDecidable _) h
theorem eqB_iff {d e : D} : eqB d e = true ↔ d = e := by unfold eqB; exact @decide_eq_true_iff (d = e) (Classical.propDecidable _)
theorem eqDeep_pl (neg : Bool) {d e : D} (h1 : okA d = true) (h2 : okA e = true) (p1 : d.pl = true) (p2 : e.pl = true) : eqDeep neg d e = M.ret (.bl (if neg then !eqB d e else eqB d e)) := by
  unfold okA at h1 h2
  cases ea : toPy d with
  | none => rw [ea] at h1; cases h1
  | some a =>
    cases eb : toPy e with
    | none => rw [eb] at h2; cases h2
    | some b =>
      rw [ea] at h1
      rw [eb] at h2
      simp only [Bool.and_eq_true] at h1 h2
      unfold eqDeep
      rw [ea, eb]
      show M.guard _ _ = _
      rw [M.guard_of (by rw [h1.1.2, h2.1.2]; rfl)]
      have : PyData.eqv a b = eqB d e := by
        rw [Bool.eq_iff_iff, eqv_pl d e a b p1 p2 ea eb, eqB_iff]
      rw [this]
theorem eqD_pl (neg : Bool) {d e : D} (h1 : okA d = true) (h2 : okA e = true) (p1 : d.pl = true) (p2 : e.pl = true) : eqD neg d e = M.ret (.bl (if neg then !eqB d e else eqB d e)) := by
  have deep := eqDeep_pl neg h1 h2 p1 p2
  cases d with
  | int i =>
    cases e with
    | int j =>
      show M.ret (D.bl (if neg then !decide (i = j) else decide (i = j))) = _
      have : decide (i = j) = eqB (.int i) (.int j) := by rw [Bool.eq_iff_iff, eqB_iff]; simp
      rw [this]
    | _ => exact deep
  | str i =>
    cases e with
    | str j =>
      show M.ret (D.bl (if neg then !decide (i = j) else decide (i = j))) = _
      have : decide (i = j) = eqB (.str i) (.str j) := by rw [Bool.eq_iff_iff, eqB_iff]; simp
      rw [this]
    | _ => exact deep
  | bl i => cases p1
  | _ => exact deep
/-- with the empty list -/
theorem eqD_nil (neg : Bool) {xs : List D} (h : okA (.lst xs) = true) : eqD neg (.lst xs) (.lst []) = M.ret (.bl (if neg then !xs.isEmpty else xs.isEmpty)) := by
  unfold okA at h
  cases ea : toPy (.lst xs) with
  | none => rw [ea] at h; cases h
  | some a =>
    rw [ea] at h
    simp only [Bool.and_eq_true] at h
    show eqDeep neg (.lst xs) (.lst []) = _
    unfold eqDeep
    have eb : toPy (.lst []) = some (.list []) := by unfold toPy toPyL; rfl
    rw [ea, eb]
    show M.guard _ _ = _
    have sh : SeqAt.shaped (.list []) = true := by decide +kernel
    rw [M.guard_of (by rw [h.1.2, sh]; rfl)]
    obtain ⟨es, hx, rfl⟩ := toPy_lst ea
    have : PyData.eqv (.list es) (.list []) = xs.isEmpty := by
      cases xs with
      | nil => unfold toPyL at hx; cases hx; rfl
      | cons x r => obtain ⟨b, s, _, _, rfl⟩ := toPyL_cons hx; rfl
    rw [this]
theorem pls_of {xs : List D} (h : ∀ d ∈ xs, d.pl = true) : D.pls xs = true := by
  induction xs with
  | nil => rfl
  | cons x r ih =>
    show (x.pl && D.pls r) = true
    rw [h x (by simp), ih fun d hd => h d (by simp [hd])]; rfl
theorem neD_same {d : D} (h : okA d = true) : eqD true d d = M.ret (.bl false) := by
  have deep : eqDeep true d d = M.ret (.bl false) := by
    have := h
    unfold okA at this
    cases ea : toPy d with
    | none => rw [ea] at this; cases this
    | some a =>
      have e1 := eqDeep_same h
      unfold eqDeep at e1 ⊢
      rw [ea] at e1 this ⊢
      simp only [Bool.and_eq_true] at this
      have g : (SeqAt.shaped a && SeqAt.shaped a) = true := by rw [this.1.2]; rfl
      have e1 : M.guard (SeqAt.shaped a && SeqAt.shaped a) (M.ret (D.bl (PyData.eqv a a))) = M.ret (.bl true) := e1
      show M.guard (SeqAt.shaped a && SeqAt.shaped a) (M.ret (D.bl (!PyData.eqv a a))) = _
      rw [M.guard_of g] at e1 ⊢
      have : PyData.eqv a a = true := by
        have := congrFun e1 none
        cases hq : PyData.eqv a a with
        | true => rfl
        | false => rw [hq] at this; cases this
      rw [this]; rfl
  cases d with
  | int i => simp [eqD]
  | str i => simp [eqD]
  | bl i => simp [eqD]
  | _ => exact deep
end DL
set_option Elab.async false
set_option maxRecDepth 100000
set_option autoImplicit false
set_option linter.unusedVariables false
set_option maxHeartbeats 4000000
namespace LW
open PySem L2 PySem.Spec PyProof.Rows DL
local macro_rules | `(tactic| walk_at "dis") => `(tactic| first | assumption | omega | (simp only [List.length_map, List.length_range, List.length_append, List.length_cons, List.length_nil, List.length_reverse, List.length_take, List.length_drop, List.length_replicate, List.length_singleton]; omega) | (simp; done))
local macro_rules | `(tactic| walk_at "ev") => `(tactic| try simp -implicitDefEqProofs -dsimp (disch := walk_at "dis") only [↓q_seq, ↓q_seqK_nx, ↓q_seqK_rt, ↓q_seqK_rn, ↓q_seqK_bk, ↓q_seqK_ct, ↓q_runD, ↓q_runN, q_runK_rt, q_runK_rn, q_runK_nx, q_runKN_rn, ↓q_set, ↓q_setN, ↓q_ret, ↓q_retN, ↓q_drop, ↓q_if, ↓q_unp, q_unpK, ↓q_par, q_parK, ↓q_app, q_appK, ↓q_aug, q_augK, q_addF_int, q_addF_str, q_guard, ↓q_for, ↓q_forR, q_loopK_nx, q_loopK_ct, q_loopK_bk, q_loopK_rt, q_loopK_rn, ↓q_sNil, ↓q_e2, ↓q_t2, ↓q_e1, ↓q_cst, ↓q_aN, ↓q_aC, ↓q_call, ↓q_callN, ↓q_eN, ↓q_nLst, q_lstK, ↓q_eTup, q_tupK, ↓q_tVal, ↓q_tNot, ↓q_tAnd, ↓q_tOr, ↓q_eAnd, ↓q_eOr, ↓q_eNot, ↓q_eIf, ↓q_iAny, ↓q_iRg1, ↓q_iRg2, ↓q_iEnum, ↓q_nLc, ↓q_cT, ↓q_oN, ↓q_oS, ↓q_eSl, ↓q_eChain, ↓q_tBl, ↓q_eMake, ↓q_eMeth, ↓q_nMeth, ↓q_n1M, ↓q_iSeq, q_selK, q_self, ↓q_iTwo, ↓q_iTwoS, q_two2s, q_two2, ↓q_ext, q_extK, ↓q_nLc2, q_count, q_inE, q_notInE, q_is_non, q_is_str, q_is_int, q_is_tup, q_is_lst, q_isnt_non, q_isnt_str, q_isnt_int, q_isnt_tup, q_isnt_lst, q_list_l, q_list_t, q_tuple_l, q_tuple_t, q_max2, q_min2, q_sum, q_ixF_s, q_ixF_l, q_ixF_t, q_ixF_b, q_inF_s, q_inF_l, q_inF_t, q_lenG_s, q_lenG_l, q_lenG_t, q_lenG_d, q_lenG_dt, ↓q_setD, ↓q_dput, q_dputK, q_keyI, q_keyS, q_seeT, q_toDv, q_toDl, q_toDk, q_toDt, q_toDs0, q_toDs1, q_toDsm, q_fls0, q_fls1, q_flv, q_fll, q_flk, q_flt, q_flsm, q_sloV, q_sloK, q_sloT, q_sloL, q_sloLl, ↓q_oV, ↓q_oL, ↓q_oC, ↓q_oaN, ↓q_oaC, ↓q_oLst, q_oLstK, ↓q_setO, ↓q_parO, q_parOK, ↓q_parO3, q_parO3K, ↓q_appAt, q_appAtK, q_appAtK2, q_flatS, q_flatI, q_flatS2, q_mapv0, q_sloL0, bnd_ret, bnd_assoc, bnd_assoc', bnd_r, cnd_t, cnd_f, cnd_bnd, fail_bnd, bind_bnd, str01, List.cons.injEq, and_true, decide_true, decide_false, cut_toN, cut_fromN, cut_from1N, cut_to1N, cut_to1, cut_to2, cut_to3, cut_from1, cut_toM1, cut_fromM1, DL.startD, List.map_cons, List.map_nil, List.length_cons, List.length_nil, Nat.reduceAdd, Nat.reduceSub, List.replicate, List.cons_append, List.nil_append, view_eq, viewAt_cons, viewAt_nil, List.contains_cons, List.contains_nil, Nat.reduceBEq, Bool.or_true, Bool.or_false, Bool.true_or, Bool.false_or, if_true, Bool.false_eq_true, if_false, Option.map_some, Option.map_none, see_val, see_own, rd_0, rd_1, rd_2, rd_3, rd_4, rd_5, rd_6, rd_7, rd_8, rd_9, rd_10, rd_11, rd_12, rd_13, rd_14, rd_15, rd_16, rd_17, rd_18, rd_19, rd_20, rd_21, rd_22, rd_23, rd_24, rd_25, rd_26, rd_27, rd_28, rd_29, rd_30, rd_31, rd_32, rd_33, rd_34, rd_35, rd_36, rd_37, rd_38, rd_39, rd_40, rd_41, rd_42, rd_43, rd_44, rd_45, Int.reduceToNat, flat_int, flat_str, flat_bl, flat_non, flat_bag, flat_lst, flat_tup, flat_obj, List.all_cons, List.all_nil, Bool.and_true, Bool.true_and, Bool.and_false, Bool.false_and, keepIf_t, keepIf_f, frz_eq, frzAt_cons, frzAt_nil, List.set_cons_succ, List.set_cons_zero, subD_int, addD_int, negD_int, asI_int, asB_bl, truD_bl, lenF_lst, lenF_tup, intF_int, intF_bl, absF_int, ltD_int, leD_int, gtD_int, geD_int, eqD_int, eqD_str, neD_int, neD_str, inD_str, notInD_str, slD_lst, slD_scr, revD_lst, itemsD_lst, itemsD_tup, itemsD_str, Bool.not_true, Bool.not_false, ixD_l, ixD_t, ofSome, atI_0, atI_1, atI_2, atI_3, atI_4, atI_app, slotD_obj, propD_obj, propN_obj, isC_obj, get0, get1, get2, get3, getS, bName_eq, bTup_eq, bCons_eq, bNil_eq, setAll2_cons, setAll2_nil, setAllD_cons, setAllD_nil, wipeD_cons, wipeD_nil, isi_str_str, isi_int_int, isi_bool_int, List.getElem?_cons_zero, List.getElem?_cons_succ, lenF_str, modD_int, divD_int, addD_str, addD_lst, slD_str, revD_str, ixD_str, ixD_str1, ixD_strmod, rng1_int, rng2_int, mulD_intl, mulD_intr, intF_dig])
local macro_rules | `(tactic| walk_at "evl") => `(tactic| try simp -implicitDefEqProofs -dsimp (disch := walk_at "dis") only [↓q_seq, ↓q_seqK_nx, ↓q_seqK_rt, ↓q_seqK_rn, ↓q_seqK_bk, ↓q_seqK_ct, ↓q_runD, ↓q_runN, q_runK_rt, q_runK_rn, q_runK_nx, q_runKN_rn, ↓q_set, ↓q_setN, ↓q_ret, ↓q_retN, ↓q_drop, ↓q_if, ↓q_unp, q_unpK, ↓q_par, q_parK, ↓q_app, q_appK, ↓q_aug, q_augK, q_addF_int, q_addF_str, q_guard, ↓q_for, ↓q_forR, q_loopK_nx, q_loopK_ct, q_loopK_bk, q_loopK_rt, q_loopK_rn, ↓q_sNil, ↓q_e2, ↓q_t2, ↓q_e1, ↓q_cst, ↓q_aN, ↓q_aC, ↓q_call, ↓q_callN, ↓q_eN, ↓q_nLst, q_lstK, ↓q_eTup, q_tupK, ↓q_tVal, ↓q_tNot, ↓q_tAnd, ↓q_tOr, ↓q_eAnd, ↓q_eOr, ↓q_eNot, ↓q_eIf, ↓q_iAny, ↓q_iRg1, ↓q_iRg2, ↓q_iEnum, ↓q_nLc, ↓q_cT, ↓q_oN, ↓q_oS, ↓q_eSl, ↓q_eChain, ↓q_tBl, ↓q_eMake, ↓q_eMeth, ↓q_nMeth, ↓q_n1M, ↓q_iSeq, q_selK, q_self, ↓q_iTwo, ↓q_iTwoS, q_two2s, q_two2, ↓q_ext, q_extK, ↓q_nLc2, q_count, q_inE, q_notInE, q_is_non, q_is_str, q_is_int, q_is_tup, q_is_lst, q_isnt_non, q_isnt_str, q_isnt_int, q_isnt_tup, q_isnt_lst, q_list_l, q_list_t, q_tuple_l, q_tuple_t, q_max2, q_min2, q_sum, q_ixF_s, q_ixF_l, q_ixF_t, q_ixF_b, q_inF_s, q_inF_l, q_inF_t, q_lenG_s, q_lenG_l, q_lenG_t, q_lenG_d, q_lenG_dt, ↓q_setD, ↓q_dput, q_dputK, q_keyI, q_keyS, q_seeT, q_toDv, q_toDl, q_toDk, q_toDt, q_toDs0, q_toDs1, q_toDsm, q_fls0, q_fls1, q_flv, q_fll, q_flk, q_flt, q_flsm, q_sloV, q_sloK, q_sloT, q_sloL, q_sloLl, ↓q_oV, ↓q_oL, ↓q_oC, ↓q_oaN, ↓q_oaC, ↓q_oLst, q_oLstK, ↓q_setO, ↓q_parO, q_parOK, ↓q_parO3, q_parO3K, ↓q_appAt, q_appAtK, q_appAtK2, q_flatS, q_flatI, q_flatS2, q_mapv0, q_sloL0, bnd_ret, bnd_assoc, bnd_assoc', bnd_r, cnd_t, cnd_f, cnd_bnd, fail_bnd, bind_bnd, str01, List.cons.injEq, and_true, decide_true, decide_false, cut_toN, cut_fromN, cut_from1N, cut_to1N, cut_to1, cut_to2, cut_to3, cut_from1, cut_toM1, cut_fromM1, DL.startD, List.map_cons, List.map_nil, List.length_cons, List.length_nil, Nat.reduceAdd, Nat.reduceSub, List.replicate, List.cons_append, List.nil_append, view_eq, viewAt_cons, viewAt_nil, List.contains_cons, List.contains_nil, Nat.reduceBEq, Bool.or_true, Bool.or_false, Bool.true_or, Bool.false_or, if_true, Bool.false_eq_true, if_false, Option.map_some, Option.map_none, see_val, see_own, rd_0, rd_1, rd_2, rd_3, rd_4, rd_5, rd_6, rd_7, rd_8, rd_9, rd_10, rd_11, rd_12, rd_13, rd_14, rd_15, rd_16, rd_17, rd_18, rd_19, rd_20, rd_21, rd_22, rd_23, rd_24, rd_25, rd_26, rd_27, rd_28, rd_29, rd_30, rd_31, rd_32, rd_33, rd_34, rd_35, rd_36, rd_37, rd_38, rd_39, rd_40, rd_41, rd_42, rd_43, rd_44, rd_45, Int.reduceToNat, flat_int, flat_str, flat_bl, flat_non, flat_bag, flat_lst, flat_tup, flat_obj, List.all_cons, List.all_nil, Bool.and_true, Bool.true_and, Bool.and_false, Bool.false_and, keepIf_t, keepIf_f, frz_eq, frzAt_cons, frzAt_nil, List.set_cons_succ, List.set_cons_zero, subD_int, addD_int, negD_int, asI_int, asB_bl, truD_bl, lenF_lst, lenF_tup, intF_int, intF_bl, absF_int, ltD_int, leD_int, gtD_int, geD_int, eqD_int, eqD_str, neD_int, neD_str, inD_str, notInD_str, slD_lst, slD_scr, revD_lst, itemsD_lst, itemsD_tup, itemsD_str, Bool.not_true, Bool.not_false, ixD_l, ixD_t, ofSome, atI_0, atI_1, atI_2, atI_3, atI_4, atI_app, slotD_obj, propD_obj, propN_obj, isC_obj, get0, get1, get2, get3, getS, bName_eq, bTup_eq, bCons_eq, bNil_eq, setAll2_cons, setAll2_nil, setAllD_cons, setAllD_nil, wipeD_cons, wipeD_nil, isi_str_str, isi_int_int, isi_bool_int, List.getElem?_cons_zero, List.getElem?_cons_succ, lenF_str, modD_int, divD_int, addD_str, addD_lst, slD_str, revD_str, ixD_str, ixD_str1, ixD_strmod, rng1_int, rng2_int, mulD_intl, mulD_intr, intF_dig, q_loop0, q_loopN, q_comp0, q_compT])
local macro_rules | `(tactic| walk_at "evc") => `(tactic| try simp -implicitDefEqProofs -dsimp (disch := walk_at "dis") only [↓q_seq, ↓q_seqK_nx, ↓q_seqK_rt, ↓q_seqK_rn, ↓q_seqK_bk, ↓q_seqK_ct, ↓q_runD, ↓q_runN, q_runK_rt, q_runK_rn, q_runK_nx, q_runKN_rn, ↓q_set, ↓q_setN, ↓q_ret, ↓q_retN, ↓q_drop, ↓q_if, ↓q_unp, q_unpK, ↓q_par, q_parK, ↓q_app, q_appK, ↓q_aug, q_augK, q_addF_int, q_addF_str, q_guard, ↓q_for, ↓q_forR, q_loopK_nx, q_loopK_ct, q_loopK_bk, q_loopK_rt, q_loopK_rn, ↓q_sNil, ↓q_e2, ↓q_t2, ↓q_e1, ↓q_cst, ↓q_aN, ↓q_aC, ↓q_call, ↓q_callN, ↓q_eN, ↓q_nLst, q_lstK, ↓q_eTup, q_tupK, ↓q_tVal, ↓q_tNot, ↓q_tAnd, ↓q_tOr, ↓q_eAnd, ↓q_eOr, ↓q_eNot, ↓q_eIf, ↓q_iAny, ↓q_iRg1, ↓q_iRg2, ↓q_iEnum, ↓q_nLc, ↓q_cT, ↓q_oN, ↓q_oS, ↓q_eSl, ↓q_eChain, ↓q_tBl, ↓q_eMake, ↓q_eMeth, ↓q_nMeth, ↓q_n1M, ↓q_iSeq, q_selK, q_self, ↓q_iTwo, ↓q_iTwoS, q_two2s, q_two2, ↓q_ext, q_extK, ↓q_nLc2, q_count, q_inE, q_notInE, q_is_non, q_is_str, q_is_int, q_is_tup, q_is_lst, q_isnt_non, q_isnt_str, q_isnt_int, q_isnt_tup, q_isnt_lst, q_list_l, q_list_t, q_tuple_l, q_tuple_t, q_max2, q_min2, q_sum, q_ixF_s, q_ixF_l, q_ixF_t, q_ixF_b, q_inF_s, q_inF_l, q_inF_t, q_lenG_s, q_lenG_l, q_lenG_t, q_lenG_d, q_lenG_dt, ↓q_setD, ↓q_dput, q_dputK, q_keyI, q_keyS, q_seeT, q_toDv, q_toDl, q_toDk, q_toDt, q_toDs0, q_toDs1, q_toDsm, q_fls0, q_fls1, q_flv, q_fll, q_flk, q_flt, q_flsm, q_sloV, q_sloK, q_sloT, q_sloL, q_sloLl, ↓q_oV, ↓q_oL, ↓q_oC, ↓q_oaN, ↓q_oaC, ↓q_oLst, q_oLstK, ↓q_setO, ↓q_parO, q_parOK, ↓q_parO3, q_parO3K, ↓q_appAt, q_appAtK, q_appAtK2, q_flatS, q_flatI, q_flatS2, q_mapv0, q_sloL0, bnd_ret, bnd_assoc, bnd_assoc', bnd_r, cnd_t, cnd_f, cnd_bnd, fail_bnd, bind_bnd, str01, List.cons.injEq, and_true, decide_true, decide_false, cut_toN, cut_fromN, cut_from1N, cut_to1N, cut_to1, cut_to2, cut_to3, cut_from1, cut_toM1, cut_fromM1, DL.startD, List.map_cons, List.map_nil, List.length_cons, List.length_nil, Nat.reduceAdd, Nat.reduceSub, List.replicate, List.cons_append, List.nil_append, view_eq, viewAt_cons, viewAt_nil, List.contains_cons, List.contains_nil, Nat.reduceBEq, Bool.or_true, Bool.or_false, Bool.true_or, Bool.false_or, if_true, Bool.false_eq_true, if_false, Option.map_some, Option.map_none, see_val, see_own, rd_0, rd_1, rd_2, rd_3, rd_4, rd_5, rd_6, rd_7, rd_8, rd_9, rd_10, rd_11, rd_12, rd_13, rd_14, rd_15, rd_16, rd_17, rd_18, rd_19, rd_20, rd_21, rd_22, rd_23, rd_24, rd_25, rd_26, rd_27, rd_28, rd_29, rd_30, rd_31, rd_32, rd_33, rd_34, rd_35, rd_36, rd_37, rd_38, rd_39, rd_40, rd_41, rd_42, rd_43, rd_44, rd_45, Int.reduceToNat, flat_int, flat_str, flat_bl, flat_non, flat_bag, flat_lst, flat_tup, flat_obj, List.all_cons, List.all_nil, Bool.and_true, Bool.true_and, Bool.and_false, Bool.false_and, keepIf_t, keepIf_f, frz_eq, frzAt_cons, frzAt_nil, List.set_cons_succ, List.set_cons_zero, subD_int, addD_int, negD_int, asI_int, asB_bl, truD_bl, lenF_lst, lenF_tup, intF_int, intF_bl, absF_int, ltD_int, leD_int, gtD_int, geD_int, eqD_int, eqD_str, neD_int, neD_str, inD_str, notInD_str, slD_lst, slD_scr, revD_lst, itemsD_lst, itemsD_tup, itemsD_str, Bool.not_true, Bool.not_false, ixD_l, ixD_t, ofSome, atI_0, atI_1, atI_2, atI_3, atI_4, atI_app, slotD_obj, propD_obj, propN_obj, isC_obj, get0, get1, get2, get3, getS, bName_eq, bTup_eq, bCons_eq, bNil_eq, setAll2_cons, setAll2_nil, setAllD_cons, setAllD_nil, wipeD_cons, wipeD_nil, isi_str_str, isi_int_int, isi_bool_int, List.getElem?_cons_zero, List.getElem?_cons_succ, lenF_str, modD_int, divD_int, addD_str, addD_lst, slD_str, revD_str, ixD_str, ixD_str1, ixD_strmod, rng1_int, rng2_int, mulD_intl, mulD_intr, intF_dig, q_comp0, q_compT])
local macro_rules | `(tactic| walk_at "env") => `(tactic| try simp -implicitDefEqProofs only [List.all_cons, List.all_nil, Bool.and_true, Bool.true_and, setAll2_cons, setAll2_nil, bName_eq, env0, List.replicate, flat_int, flat_str, flat_bl, flat_non, flat_bag, flat_lst, flat_tup, flat_obj, keepIf_t, keepIf_f, frz_eq, frzAt_cons, frzAt_nil, List.contains_cons, List.contains_nil, Nat.reduceBEq, Nat.reduceAdd, Bool.or_true, Bool.or_false, Bool.true_or, if_true, Bool.false_eq_true, if_false, Option.map_some, Option.map_none, see_val, see_own, List.set_cons_succ, List.set_cons_zero])
/-! turned_by -/
def F_turned_by : Env2 → M Out :=
  (seqM (setM 2 [0, 1] (e2 modD (rdEnv 1) (eCall lenG (aC (rdEnv 0) aN))))
  (retM [0, 2] (e2 addD (eSl (rdEnv 0) (oS (e2 subD (eCall lenG (aC (rdEnv 0) aN)) (rdEnv 2))) oN) (eSl (rdEnv 0) oN (oS (e2 subD (eCall lenG (aC (rdEnv 0) aN)) (rdEnv 2)))))))
def R_turned_by : List D → M D := runD 3 F_turned_by
/-! _law_turned -/
def F__law_turned : Env2 → M Out :=
  (retM [0, 1, 2] (e2 joinF (cst (.str [])) (eN (nLc [2] (iRg1 (aC (eCall lenG (aC (rdEnv 0) aN)) aN)) (bName 2) cT (e2 ixF (rdEnv 0) (e2 modD (eCall intF (aC (e2 subD (rdEnv 2) (rdEnv 1)) aN)) (eCall lenG (aC (rdEnv 0) aN))))))))
def R__law_turned : List D → M D := runD 3 F__law_turned
/-! _law_long -/
def F__law_long : Env2 → M Out :=
  (seqM (ifM [0] (t2 (eqD false) (eCall R__law_take (aC (rdEnv 0) (aC (cst (.int 2)) aN))) (cst (.int 0)))
  (retM [0] (eCall R__law_take (aC (rdEnv 0) (aC (cst (.int 30)) aN))))
  sNil)
  (retM [0] (e2 addD (eCall intF (aC (e2 addD (cst (.str [49])) (e2 mulD (cst (.str [48])) (eCall R__law_take (aC (rdEnv 0) (aC (cst (.int 40)) aN))))) aN)) (eCall R__law_take (aC (rdEnv 0) (aC (cst (.int 50)) aN))))))
def R__law_long : List D → M D := runD 1 F__law_long
/-! late_after -/
def F_late_after : Env2 → M Out :=
  (seqM (unpM (bTup 2 (bCons (bName 3) (bCons (bTup 2 (bCons (bName 4) (bCons (bName 5) bNil))) bNil))) [0, 1] (eTup (aC (eN (nCall R_path_of (aC (rdEnv 0) (aC (rdEnv 1) aN)))) (aC (eCall R_fate_of (aC (rdEnv 0) (aC (rdEnv 1) aN))) aN))))
  (retM [2, 3, 4, 5] (eIf (t2 ltD (rdEnv 2) (rdEnv 4)) (e2 ixF (rdEnv 3) (rdEnv 2)) (e2 ixF (rdEnv 3) (e2 addD (rdEnv 4) (e2 modD (e2 subD (rdEnv 2) (rdEnv 4)) (rdEnv 5)))))))
def R_late_after : List D → M D := runD 6 F_late_after
/-! ### stands turned -/
def turnL (t : List Nat) (p : Int) : List Nat := (List.range t.length).map fun (k : Nat) => t.getD (((k : Int) - p) % (t.length : Int)).toNat 0
theorem turnL_len (t : List Nat) (p : Int) : (turnL t p).length = t.length := by simp [turnL]
theorem emod_turn {n : Nat} {k : Nat} {p : Int} (hk : k < n) : ((k : Int) - p) % (n : Int) = if (k : Int) < p % n then (k : Int) - p % n + n else (k : Int) - p % n := by
  have hn : (0 : Int) < n := by omega
  have h1 := Int.emod_nonneg p (by omega : (n : Int) ≠ 0)
  have h2 := Int.emod_lt_of_pos p hn
  have e : ((k : Int) - p) % n = ((k : Int) - p % n) % n := by rw [Int.sub_emod, Int.sub_emod (k : Int) (p % n), Int.emod_emod]
  rw [e]
  by_cases h : (k : Int) < p % n
  · rw [if_pos h, ← Int.add_emod_right]
    exact Int.emod_eq_of_lt (by omega) (by omega)
  · rw [if_neg h]
    exact Int.emod_eq_of_lt (by omega) (by omega)
theorem turn_cut (t : List Nat) (p : Int) (h : t ≠ []) : t.drop ((t.length : Int) - p % t.length).toNat ++ t.take ((t.length : Int) - p % t.length).toNat = turnL t p := by
  have hn : 0 < t.length := List.length_pos_iff.mpr h
  have h1 := Int.emod_nonneg p (by omega : (t.length : Int) ≠ 0)
  have h2 := Int.emod_lt_of_pos p (by omega : (0 : Int) < t.length)
  apply List.ext_getElem
  · simp [turnL]
    omega
  · intro k hk1 hk2
    have hk : k < t.length := by simpa [turnL] using hk2
    simp only [turnL, List.getElem_map, List.getElem_range]
    rw [emod_turn hk, List.getElem_append]
    by_cases hc : (k : Int) < p % t.length
    · rw [if_pos hc, dif_pos (by simp; omega), List.getElem_drop]
      have e : ((t.length : Int) - p % t.length).toNat + k = ((k : Int) - p % t.length + t.length).toNat := by omega
      rw [List.getD_eq_getElem?_getD, List.getElem?_eq_getElem (by omega)]
      simp only [e, Option.getD_some]
    · rw [if_neg hc, dif_neg (by simp; omega), List.getElem_take]
      have e : k - (t.drop ((t.length : Int) - p % t.length).toNat).length = ((k : Int) - p % t.length).toNat := by simp; omega
      rw [List.getD_eq_getElem?_getD, List.getElem?_eq_getElem (by omega)]
      simp only [e, Option.getD_some]
theorem turned_by_is {t : List Nat} (p : Int) (h : 0 < t.length) (hz : t.length ≤ 1000) : R_turned_by [.str t, .int p] = M.ret (.str (turnL t p)) := by
  have h1 := Int.emod_nonneg p (by omega : (t.length : Int) ≠ 0)
  have h2 := Int.emod_lt_of_pos p (by omega : (0 : Int) < t.length)
  simp only [R_turned_by, F_turned_by]
  walk_at "ev"
  rw [cut_from _ (by omega), cut_to _ (by omega), addD_str (by simp; omega), turn_cut t p (List.length_pos_iff.mp h)]
  walk_at "ev"
theorem turned_law {t : List Nat} (p : Int) (h : 0 < t.length) (hz : t.length ≤ 1000) : R__law_turned [.str t, .int p] = M.ret (.str (turnL t p)) := by
  simp only [R__law_turned, F__law_turned]
  walk_at "ev"
  rw [Int.toNat_natCast]
  rw [compM_mapI (l := fun (k : Nat) => [(2, D.int (0 + (k : Int)))]) (y := fun (k : Nat) => D.str [t.getD (((k : Int) - p) % (t.length : Int)).toNat 0]) (fun k hk => ⟨rfl, rfl, ?_⟩)]
  · walk_at "ev"
    rw [joinF_one (by simp; omega)]
    rfl
  · have h1 := Int.emod_nonneg ((k : Int) - p) (by omega : (t.length : Int) ≠ 0)
    have h2 := Int.emod_lt_of_pos ((k : Int) - p) (by omega : (0 : Int) < t.length)
    walk_at "ev"
    rw [Int.zero_add]
theorem turnL_sg {r : Nat} {x : List Nat} (h : Sg r x) (p : Int) : Sg r (turnL x p) := by
  intro c hc
  unfold turnL at hc
  obtain ⟨k, hk, rfl⟩ := List.mem_map.mp hc
  have hk := List.mem_range.mp hk
  have h1 := Int.emod_nonneg ((k : Int) - p) (by omega : (x.length : Int) ≠ 0)
  have h2 := Int.emod_lt_of_pos ((k : Int) - p) (by omega : (0 : Int) < x.length)
  rw [List.getD_eq_getElem?_getD, List.getElem?_eq_getElem (by omega), Option.getD_some]
  exact h _ (List.getElem_mem _)
theorem turnL_get {x : List Nat} {p : Int} {k : Nat} (hk : k < x.length) : (turnL x p).getD k 0 = x.getD (((k : Int) - p) % (x.length : Int)).toNat 0 := by
  unfold turnL
  rw [List.getD_eq_getElem?_getD, List.getElem?_map, List.getElem?_range hk]
  rfl
/-- the sign at any place of a ring -/
def rat (x : List Nat) (i : Int) : Nat := x.getD (i % (x.length : Int)).toNat 0
theorem rat_nat {x : List Nat} {k : Nat} (hk : k < x.length) : rat x (k : Int) = x.getD k 0 := by
  unfold rat
  rw [Int.emod_eq_of_lt (by omega) (by omega), Int.toNat_natCast]
theorem rat_ext {x y : List Nat} (hl : x.length = y.length) (h : ∀ i, rat x i = rat y i) : x = y := by
  apply List.ext_getElem hl
  intro k h1 h2
  have := h k
  rw [rat_nat h1, rat_nat h2, List.getD_eq_getElem?_getD, List.getD_eq_getElem?_getD, List.getElem?_eq_getElem h1, List.getElem?_eq_getElem h2] at this
  exact this
theorem rat_mod {x : List Nat} {i j : Int} (h : i % (x.length : Int) = j % (x.length : Int)) : rat x i = rat x j := by
  unfold rat
  rw [h]
theorem rat_turn {x : List Nat} (h0 : 0 < x.length) (p i : Int) : rat (turnL x p) i = rat x (i - p) := by
  have h1 := Int.emod_nonneg i (by omega : (x.length : Int) ≠ 0)
  have h2 := Int.emod_lt_of_pos i (by omega : (0 : Int) < x.length)
  unfold rat
  rw [turnL_len, turnL_get (by omega), Int.toNat_of_nonneg h1, Int.emod_sub_emod]
theorem rat_ring {t : List Nat} {r : Nat} {x : List Nat} (h0 : 0 < x.length) (i : Int) : rat (ringL t r x) i = sgn t r (rat x (i - 1)) (rat x i) (rat x (i + 1)) := by
  have h1 := Int.emod_nonneg i (by omega : (x.length : Int) ≠ 0)
  have h2 := Int.emod_lt_of_pos i (by omega : (0 : Int) < x.length)
  have ll : (ringL t r x).length = x.length := by simp [ringL]
  have e0 : (((i % (x.length : Int)).toNat : Nat) : Int) = i % (x.length : Int) := Int.toNat_of_nonneg h1
  have hk : (i % (x.length : Int)).toNat < x.length := by omega
  unfold rat
  rw [ll]
  conv => lhs; unfold ringL
  rw [List.getD_eq_getElem?_getD, List.getElem?_map, List.getElem?_range hk, Option.map_some, Option.getD_some]
  have e1 : ((i % (x.length : Int)).toNat + (x.length - 1)) % x.length = ((i - 1) % (x.length : Int)).toNat := by
    have : ((((i % (x.length : Int)).toNat + (x.length - 1)) % x.length : Nat) : Int) = (i - 1) % (x.length : Int) := by
      rw [Int.natCast_emod, Int.natCast_add, e0, show ((x.length - 1 : Nat) : Int) = (x.length : Int) - 1 by omega, Int.emod_add_emod, show i + ((x.length : Int) - 1) = i - 1 + x.length by omega, Int.add_emod_right]
    omega
  have e2 : ((i % (x.length : Int)).toNat + 1) % x.length = ((i + 1) % (x.length : Int)).toNat := by
    have : ((((i % (x.length : Int)).toNat + 1) % x.length : Nat) : Int) = (i + 1) % (x.length : Int) := by
      rw [Int.natCast_emod, Int.natCast_add, e0, Int.natCast_one, Int.emod_add_emod]
    omega
  rw [e1, e2]
theorem ring_turn {t : List Nat} {r : Nat} {x : List Nat} (h0 : 0 < x.length) (p : Int) : ringL t r (turnL x p) = turnL (ringL t r x) p := by
  refine rat_ext (by rw [ringL_len, turnL_len, turnL_len, ringL_len]) fun i => ?_
  rw [rat_ring (by rw [turnL_len]; exact h0), rat_turn h0, rat_turn h0, rat_turn h0, rat_turn (by rw [ringL_len]; exact h0), rat_ring h0]
  congr 2 <;> omega
theorem turn_turn {x : List Nat} (h0 : 0 < x.length) (p q : Int) : turnL (turnL x p) q = turnL x (p + q) := by
  refine rat_ext (by rw [turnL_len, turnL_len, turnL_len]) fun i => ?_
  rw [rat_turn (by rw [turnL_len]; exact h0), rat_turn h0, rat_turn h0, show i - q - p = i - (p + q) by omega]
theorem turn_zero (x : List Nat) : turnL x 0 = x := by
  by_cases h : x.length = 0
  · rw [List.length_eq_zero_iff.mp h]; rfl
  · refine rat_ext (turnL_len _ _) fun i => ?_
    rw [rat_turn (by omega), Int.sub_zero]
theorem turn_mod {x : List Nat} (h0 : 0 < x.length) {p q : Int} (h : p % (x.length : Int) = q % (x.length : Int)) : turnL x p = turnL x q := by
  refine rat_ext (by rw [turnL_len, turnL_len]) fun i => ?_
  rw [rat_turn h0, rat_turn h0]
  exact rat_mod (by rw [Int.sub_emod, h, ← Int.sub_emod])
theorem itN_turn {t : List Nat} {r : Nat} (p : Int) : ∀ (k : Nat) {x : List Nat}, 0 < x.length → itN (ringL t r) k (turnL x p) = turnL (itN (ringL t r) k x) p
  | 0, x, _ => rfl
  | k + 1, x, h0 => by
    rw [itN_succ, itN_succ, itN_turn p k h0, ring_turn (by rw [itN_ring_len]; exact h0)]
theorem itN_sum {α : Type} (f : α → α) (x : α) (j : Nat) : ∀ i, itN f (i + j) x = itN f i (itN f j x)
  | 0 => by rw [Nat.zero_add]; rfl
  | i + 1 => by rw [show i + 1 + j = i + j + 1 by omega, itN_succ, itN_succ, itN_sum f x j i]
theorem itN_per {α : Type} {f : α → α} {x : α} {e p : Nat} (h : itN f (e + p) x = itN f e x) : ∀ (q k : Nat), itN f (e + k + p * q) x = itN f (e + k) x
  | 0, k => rfl
  | q + 1, k => by
    have h2 : itN f (e + k + p) x = itN f (e + k) x := by
      rw [show e + k + p = k + (e + p) by omega, itN_sum, h, ← itN_sum, Nat.add_comm]
    rw [Nat.mul_succ, show e + k + (p * q + p) = p * q + (e + k + p) by omega, itN_sum, h2, ← itN_sum, Nat.add_comm, itN_per h q k]
theorem itN_wrap {α : Type} {f : α → α} {x : α} {e p n : Nat} (h : itN f (e + p) x = itN f e x) (hn : e ≤ n) : itN f n x = itN f (e + (n - e) % p) x := by
  have := itN_per h ((n - e) / p) ((n - e) % p)
  rw [← this]
  congr 1
  have := Nat.mod_add_div (n - e) p
  omega
theorem late_after_is {t : List Nat} {r : Nat} {x : List Nat} {n : Nat} (ht : BinT t) (hr : r ≤ 2) (h0 : 0 < x.length) (hx : Sg r x) (hz : x.length ≤ 100) (hb : (r + 2) ^ x.length ≤ 100000) : R_late_after [rul t r, .str x, .int (n : Int)] = M.ret (.str (itN (ringL t r) n x)) := by
  obtain ⟨m, hp, _, e⟩ := path_of_is ht hr h0 hx hz hb
  have ef := fate_of_is ht hr h0 hx hz hb hp
  have hlt := hp.early_lt
  have hee := hp.early_eq
  have ll := itL_len (ringL t r) x m
  have lg : ∀ k, k < m → atI (strL (itL (ringL t r) x m)) (k : Int) = some (.str (itN (ringL t r) k x)) := fun k hk => atI_nat (by rw [List.getElem?_map, itL_get hk]; rfl)
  generalize early (ringL t r) x m = ea at *
  simp only [R_late_after, F_late_after]
  walk_at "ev"
  rw [e]
  walk_at "ev"
  rw [ef]
  walk_at "ev"
  by_cases hc : (n : Int) < (ea : Int)
  · rw [cnd_dt hc]
    walk_at "ev"
    rw [lg n (by omega)]
    rfl
  · rw [cnd_df hc]
    walk_at "ev"
    have e1 : (ea : Int) + ((n : Int) - (ea : Int)) % ((m : Int) - (ea : Int)) = ((ea + (n - ea) % (m - ea) : Nat) : Int) := by
      rw [Int.natCast_add, Int.natCast_emod, Int.natCast_sub (by omega), Int.natCast_sub (by omega)]
    have := Nat.mod_lt (n - ea) (show 0 < m - ea by omega)
    rw [e1, lg _ (by omega), ← itN_wrap (by rw [show ea + (m - ea) = m by omega]; exact hee.symm) (by omega)]
    rfl
theorem int_long : ∀ k, k < 60 → PySem.intText? ⟨(49 :: List.replicate k 48).toArray⟩ = some ((10 : Int) ^ k) := by decide +kernel
theorem mul0 {n : Nat} (h : n ≤ 100) : mulD (.str [48]) (.int (n : Int)) = M.ret (.str (List.replicate n 48)) := by
  have e : repL [48] n = List.replicate n 48 := by
    clear h
    induction n with
    | zero => rfl
    | succ n ih => rw [List.replicate_succ, ← ih]; rfl
  simp only [mulD]
  rw [Int.toNat_natCast, e, M.guard_of]
  unfold okRep
  simp only [Bool.and_eq_true, decide_eq_true_eq, Int.toNat_natCast, List.length_singleton]
  refine ⟨⟨?_, ?_⟩, ?_⟩
  · omega
  · omega
  · rw [Nat.one_mul]
    exact Nat.le_trans h (by decide)
theorem long_tot {p : Addr} : Tot p (R__law_long [.bag p]) fun d => ∃ n : Nat, d = .int (n : Int) := by
  simp only [R__law_long, F__law_long]
  walk_at "ev"
  refine (take_tot (by omega) (by omega)).bnd ?_
  rintro _ ⟨v, rfl, v0, v1⟩
  walk_at "ev"
  by_cases hv : v = 0
  · rw [cnd_dt hv]
    walk_at "ev"
    refine (take_tot (by omega) (by omega)).bnd ?_
    rintro _ ⟨v, rfl, v0, v1⟩
    walk_at "ev"
    exact Tot.ret ⟨v.toNat, by rw [Int.toNat_of_nonneg v0]⟩
  · rw [cnd_df hv]
    walk_at "ev"
    refine (take_tot (by omega) (by omega)).bnd ?_
    rintro _ ⟨v, rfl, v0, v1⟩
    obtain ⟨k, rfl⟩ : ∃ k : Nat, v = (k : Int) := ⟨v.toNat, by rw [Int.toNat_of_nonneg v0]⟩
    walk_at "ev"
    rw [mul0 (by omega)]
    walk_at "ev"
    have ei : intF [D.str (49 :: List.replicate k 48)] = M.ret (.int ((10 : Int) ^ k)) := by
      simp only [intF, int_long k (by omega)]
      rw [M.guard_of (decide_eq_true (by rw [List.length_cons, List.length_replicate]; omega))]
    rw [ei]
    walk_at "ev"
    refine (take_tot (by omega) (by omega)).bnd ?_
    rintro _ ⟨v, rfl, v0, v1⟩
    walk_at "ev"
    refine Tot.ret ⟨10 ^ k + v.toNat, ?_⟩
    rw [Int.natCast_add, Int.toNat_of_nonneg v0, Int.natCast_pow]
    rfl
end LW
set_option Elab.async false
set_option maxRecDepth 100000
set_option autoImplicit false
set_option linter.unusedVariables false
set_option maxHeartbeats 4000000
namespace LW
open PySem L2 PySem.Spec PyProof.Rows DL
local macro_rules | `(tactic| walk_at "dis") => `(tactic| first | assumption | omega | (simp only [List.length_map, List.length_range, List.length_append, List.length_cons, List.length_nil, List.length_reverse, List.length_take, List.length_drop, List.length_replicate, List.length_singleton]; omega) | (simp; done))
local macro_rules | `(tactic| walk_at "ev") => `(tactic| try simp -implicitDefEqProofs -dsimp (disch := walk_at "dis") only [↓q_seq, ↓q_seqK_nx, ↓q_seqK_rt, ↓q_seqK_rn, ↓q_seqK_bk, ↓q_seqK_ct, ↓q_runD, ↓q_runN, q_runK_rt, q_runK_rn, q_runK_nx, q_runKN_rn, ↓q_set, ↓q_setN, ↓q_ret, ↓q_retN, ↓q_drop, ↓q_if, ↓q_unp, q_unpK, ↓q_par, q_parK, ↓q_app, q_appK, ↓q_aug, q_augK, q_addF_int, q_addF_str, q_guard, ↓q_for, ↓q_forR, q_loopK_nx, q_loopK_ct, q_loopK_bk, q_loopK_rt, q_loopK_rn, ↓q_sNil, ↓q_e2, ↓q_t2, ↓q_e1, ↓q_cst, ↓q_aN, ↓q_aC, ↓q_call, ↓q_callN, ↓q_eN, ↓q_nLst, q_lstK, ↓q_eTup, q_tupK, ↓q_tVal, ↓q_tNot, ↓q_tAnd, ↓q_tOr, ↓q_eAnd, ↓q_eOr, ↓q_eNot, ↓q_eIf, ↓q_iAny, ↓q_iRg1, ↓q_iRg2, ↓q_iEnum, ↓q_nLc, ↓q_cT, ↓q_oN, ↓q_oS, ↓q_eSl, ↓q_eChain, ↓q_tBl, ↓q_eMake, ↓q_eMeth, ↓q_nMeth, ↓q_n1M, ↓q_iSeq, q_selK, q_self, ↓q_iTwo, ↓q_iTwoS, q_two2s, q_two2, ↓q_ext, q_extK, ↓q_nLc2, q_count, q_inE, q_notInE, q_is_non, q_is_str, q_is_int, q_is_tup, q_is_lst, q_isnt_non, q_isnt_str, q_isnt_int, q_isnt_tup, q_isnt_lst, q_list_l, q_list_t, q_tuple_l, q_tuple_t, q_max2, q_min2, q_sum, q_ixF_s, q_ixF_l, q_ixF_t, q_ixF_b, q_inF_s, q_inF_l, q_inF_t, q_lenG_s, q_lenG_l, q_lenG_t, q_lenG_d, q_lenG_dt, ↓q_setD, ↓q_dput, q_dputK, q_keyI, q_keyS, q_seeT, q_toDv, q_toDl, q_toDk, q_toDt, q_toDs0, q_toDs1, q_toDsm, q_fls0, q_fls1, q_flv, q_fll, q_flk, q_flt, q_flsm, q_sloV, q_sloK, q_sloT, q_sloL, q_sloLl, ↓q_oV, ↓q_oL, ↓q_oC, ↓q_oaN, ↓q_oaC, ↓q_oLst, q_oLstK, ↓q_setO, ↓q_parO, q_parOK, ↓q_parO3, q_parO3K, ↓q_appAt, q_appAtK, q_appAtK2, q_flatS, q_flatI, q_flatS2, q_mapv0, q_sloL0, bnd_ret, bnd_assoc, bnd_assoc', bnd_r, cnd_t, cnd_f, cnd_bnd, fail_bnd, bind_bnd, str01, List.cons.injEq, and_true, decide_true, decide_false, cut_toN, cut_fromN, cut_from1N, cut_to1N, cut_to1, cut_to2, cut_to3, cut_from1, cut_toM1, cut_fromM1, DL.startD, List.map_cons, List.map_nil, List.length_cons, List.length_nil, Nat.reduceAdd, Nat.reduceSub, List.replicate, List.cons_append, List.nil_append, view_eq, viewAt_cons, viewAt_nil, List.contains_cons, List.contains_nil, Nat.reduceBEq, Bool.or_true, Bool.or_false, Bool.true_or, Bool.false_or, if_true, Bool.false_eq_true, if_false, Option.map_some, Option.map_none, see_val, see_own, rd_0, rd_1, rd_2, rd_3, rd_4, rd_5, rd_6, rd_7, rd_8, rd_9, rd_10, rd_11, rd_12, rd_13, rd_14, rd_15, rd_16, rd_17, rd_18, rd_19, rd_20, rd_21, rd_22, rd_23, rd_24, rd_25, rd_26, rd_27, rd_28, rd_29, rd_30, rd_31, rd_32, rd_33, rd_34, rd_35, rd_36, rd_37, rd_38, rd_39, rd_40, rd_41, rd_42, rd_43, rd_44, rd_45, Int.reduceToNat, flat_int, flat_str, flat_bl, flat_non, flat_bag, flat_lst, flat_tup, flat_obj, List.all_cons, List.all_nil, Bool.and_true, Bool.true_and, Bool.and_false, Bool.false_and, keepIf_t, keepIf_f, frz_eq, frzAt_cons, frzAt_nil, List.set_cons_succ, List.set_cons_zero, subD_int, addD_int, negD_int, asI_int, asB_bl, truD_bl, lenF_lst, lenF_tup, intF_int, intF_bl, absF_int, ltD_int, leD_int, gtD_int, geD_int, eqD_int, eqD_str, neD_int, neD_str, inD_str, notInD_str, slD_lst, slD_scr, revD_lst, itemsD_lst, itemsD_tup, itemsD_str, Bool.not_true, Bool.not_false, ixD_l, ixD_t, ofSome, atI_0, atI_1, atI_2, atI_3, atI_4, atI_app, slotD_obj, propD_obj, propN_obj, isC_obj, get0, get1, get2, get3, getS, bName_eq, bTup_eq, bCons_eq, bNil_eq, setAll2_cons, setAll2_nil, setAllD_cons, setAllD_nil, wipeD_cons, wipeD_nil, isi_str_str, isi_int_int, isi_bool_int, List.getElem?_cons_zero, List.getElem?_cons_succ, lenF_str, modD_int, divD_int, addD_str, addD_lst, slD_str, revD_str, ixD_str, ixD_str1, ixD_strmod, rng1_int, rng2_int, mulD_intl, mulD_intr, intF_dig])
local macro_rules | `(tactic| walk_at "evl") => `(tactic| try simp -implicitDefEqProofs -dsimp (disch := walk_at "dis") only [↓q_seq, ↓q_seqK_nx, ↓q_seqK_rt, ↓q_seqK_rn, ↓q_seqK_bk, ↓q_seqK_ct, ↓q_runD, ↓q_runN, q_runK_rt, q_runK_rn, q_runK_nx, q_runKN_rn, ↓q_set, ↓q_setN, ↓q_ret, ↓q_retN, ↓q_drop, ↓q_if, ↓q_unp, q_unpK, ↓q_par, q_parK, ↓q_app, q_appK, ↓q_aug, q_augK, q_addF_int, q_addF_str, q_guard, ↓q_for, ↓q_forR, q_loopK_nx, q_loopK_ct, q_loopK_bk, q_loopK_rt, q_loopK_rn, ↓q_sNil, ↓q_e2, ↓q_t2, ↓q_e1, ↓q_cst, ↓q_aN, ↓q_aC, ↓q_call, ↓q_callN, ↓q_eN, ↓q_nLst, q_lstK, ↓q_eTup, q_tupK, ↓q_tVal, ↓q_tNot, ↓q_tAnd, ↓q_tOr, ↓q_eAnd, ↓q_eOr, ↓q_eNot, ↓q_eIf, ↓q_iAny, ↓q_iRg1, ↓q_iRg2, ↓q_iEnum, ↓q_nLc, ↓q_cT, ↓q_oN, ↓q_oS, ↓q_eSl, ↓q_eChain, ↓q_tBl, ↓q_eMake, ↓q_eMeth, ↓q_nMeth, ↓q_n1M, ↓q_iSeq, q_selK, q_self, ↓q_iTwo, ↓q_iTwoS, q_two2s, q_two2, ↓q_ext, q_extK, ↓q_nLc2, q_count, q_inE, q_notInE, q_is_non, q_is_str, q_is_int, q_is_tup, q_is_lst, q_isnt_non, q_isnt_str, q_isnt_int, q_isnt_tup, q_isnt_lst, q_list_l, q_list_t, q_tuple_l, q_tuple_t, q_max2, q_min2, q_sum, q_ixF_s, q_ixF_l, q_ixF_t, q_ixF_b, q_inF_s, q_inF_l, q_inF_t, q_lenG_s, q_lenG_l, q_lenG_t, q_lenG_d, q_lenG_dt, ↓q_setD, ↓q_dput, q_dputK, q_keyI, q_keyS, q_seeT, q_toDv, q_toDl, q_toDk, q_toDt, q_toDs0, q_toDs1, q_toDsm, q_fls0, q_fls1, q_flv, q_fll, q_flk, q_flt, q_flsm, q_sloV, q_sloK, q_sloT, q_sloL, q_sloLl, ↓q_oV, ↓q_oL, ↓q_oC, ↓q_oaN, ↓q_oaC, ↓q_oLst, q_oLstK, ↓q_setO, ↓q_parO, q_parOK, ↓q_parO3, q_parO3K, ↓q_appAt, q_appAtK, q_appAtK2, q_flatS, q_flatI, q_flatS2, q_mapv0, q_sloL0, bnd_ret, bnd_assoc, bnd_assoc', bnd_r, cnd_t, cnd_f, cnd_bnd, fail_bnd, bind_bnd, str01, List.cons.injEq, and_true, decide_true, decide_false, cut_toN, cut_fromN, cut_from1N, cut_to1N, cut_to1, cut_to2, cut_to3, cut_from1, cut_toM1, cut_fromM1, DL.startD, List.map_cons, List.map_nil, List.length_cons, List.length_nil, Nat.reduceAdd, Nat.reduceSub, List.replicate, List.cons_append, List.nil_append, view_eq, viewAt_cons, viewAt_nil, List.contains_cons, List.contains_nil, Nat.reduceBEq, Bool.or_true, Bool.or_false, Bool.true_or, Bool.false_or, if_true, Bool.false_eq_true, if_false, Option.map_some, Option.map_none, see_val, see_own, rd_0, rd_1, rd_2, rd_3, rd_4, rd_5, rd_6, rd_7, rd_8, rd_9, rd_10, rd_11, rd_12, rd_13, rd_14, rd_15, rd_16, rd_17, rd_18, rd_19, rd_20, rd_21, rd_22, rd_23, rd_24, rd_25, rd_26, rd_27, rd_28, rd_29, rd_30, rd_31, rd_32, rd_33, rd_34, rd_35, rd_36, rd_37, rd_38, rd_39, rd_40, rd_41, rd_42, rd_43, rd_44, rd_45, Int.reduceToNat, flat_int, flat_str, flat_bl, flat_non, flat_bag, flat_lst, flat_tup, flat_obj, List.all_cons, List.all_nil, Bool.and_true, Bool.true_and, Bool.and_false, Bool.false_and, keepIf_t, keepIf_f, frz_eq, frzAt_cons, frzAt_nil, List.set_cons_succ, List.set_cons_zero, subD_int, addD_int, negD_int, asI_int, asB_bl, truD_bl, lenF_lst, lenF_tup, intF_int, intF_bl, absF_int, ltD_int, leD_int, gtD_int, geD_int, eqD_int, eqD_str, neD_int, neD_str, inD_str, notInD_str, slD_lst, slD_scr, revD_lst, itemsD_lst, itemsD_tup, itemsD_str, Bool.not_true, Bool.not_false, ixD_l, ixD_t, ofSome, atI_0, atI_1, atI_2, atI_3, atI_4, atI_app, slotD_obj, propD_obj, propN_obj, isC_obj, get0, get1, get2, get3, getS, bName_eq, bTup_eq, bCons_eq, bNil_eq, setAll2_cons, setAll2_nil, setAllD_cons, setAllD_nil, wipeD_cons, wipeD_nil, isi_str_str, isi_int_int, isi_bool_int, List.getElem?_cons_zero, List.getElem?_cons_succ, lenF_str, modD_int, divD_int, addD_str, addD_lst, slD_str, revD_str, ixD_str, ixD_str1, ixD_strmod, rng1_int, rng2_int, mulD_intl, mulD_intr, intF_dig, q_loop0, q_loopN, q_comp0, q_compT])
local macro_rules | `(tactic| walk_at "evc") => `(tactic| try simp -implicitDefEqProofs -dsimp (disch := walk_at "dis") only [↓q_seq, ↓q_seqK_nx, ↓q_seqK_rt, ↓q_seqK_rn, ↓q_seqK_bk, ↓q_seqK_ct, ↓q_runD, ↓q_runN, q_runK_rt, q_runK_rn, q_runK_nx, q_runKN_rn, ↓q_set, ↓q_setN, ↓q_ret, ↓q_retN, ↓q_drop, ↓q_if, ↓q_unp, q_unpK, ↓q_par, q_parK, ↓q_app, q_appK, ↓q_aug, q_augK, q_addF_int, q_addF_str, q_guard, ↓q_for, ↓q_forR, q_loopK_nx, q_loopK_ct, q_loopK_bk, q_loopK_rt, q_loopK_rn, ↓q_sNil, ↓q_e2, ↓q_t2, ↓q_e1, ↓q_cst, ↓q_aN, ↓q_aC, ↓q_call, ↓q_callN, ↓q_eN, ↓q_nLst, q_lstK, ↓q_eTup, q_tupK, ↓q_tVal, ↓q_tNot, ↓q_tAnd, ↓q_tOr, ↓q_eAnd, ↓q_eOr, ↓q_eNot, ↓q_eIf, ↓q_iAny, ↓q_iRg1, ↓q_iRg2, ↓q_iEnum, ↓q_nLc, ↓q_cT, ↓q_oN, ↓q_oS, ↓q_eSl, ↓q_eChain, ↓q_tBl, ↓q_eMake, ↓q_eMeth, ↓q_nMeth, ↓q_n1M, ↓q_iSeq, q_selK, q_self, ↓q_iTwo, ↓q_iTwoS, q_two2s, q_two2, ↓q_ext, q_extK, ↓q_nLc2, q_count, q_inE, q_notInE, q_is_non, q_is_str, q_is_int, q_is_tup, q_is_lst, q_isnt_non, q_isnt_str, q_isnt_int, q_isnt_tup, q_isnt_lst, q_list_l, q_list_t, q_tuple_l, q_tuple_t, q_max2, q_min2, q_sum, q_ixF_s, q_ixF_l, q_ixF_t, q_ixF_b, q_inF_s, q_inF_l, q_inF_t, q_lenG_s, q_lenG_l, q_lenG_t, q_lenG_d, q_lenG_dt, ↓q_setD, ↓q_dput, q_dputK, q_keyI, q_keyS, q_seeT, q_toDv, q_toDl, q_toDk, q_toDt, q_toDs0, q_toDs1, q_toDsm, q_fls0, q_fls1, q_flv, q_fll, q_flk, q_flt, q_flsm, q_sloV, q_sloK, q_sloT, q_sloL, q_sloLl, ↓q_oV, ↓q_oL, ↓q_oC, ↓q_oaN, ↓q_oaC, ↓q_oLst, q_oLstK, ↓q_setO, ↓q_parO, q_parOK, ↓q_parO3, q_parO3K, ↓q_appAt, q_appAtK, q_appAtK2, q_flatS, q_flatI, q_flatS2, q_mapv0, q_sloL0, bnd_ret, bnd_assoc, bnd_assoc', bnd_r, cnd_t, cnd_f, cnd_bnd, fail_bnd, bind_bnd, str01, List.cons.injEq, and_true, decide_true, decide_false, cut_toN, cut_fromN, cut_from1N, cut_to1N, cut_to1, cut_to2, cut_to3, cut_from1, cut_toM1, cut_fromM1, DL.startD, List.map_cons, List.map_nil, List.length_cons, List.length_nil, Nat.reduceAdd, Nat.reduceSub, List.replicate, List.cons_append, List.nil_append, view_eq, viewAt_cons, viewAt_nil, List.contains_cons, List.contains_nil, Nat.reduceBEq, Bool.or_true, Bool.or_false, Bool.true_or, Bool.false_or, if_true, Bool.false_eq_true, if_false, Option.map_some, Option.map_none, see_val, see_own, rd_0, rd_1, rd_2, rd_3, rd_4, rd_5, rd_6, rd_7, rd_8, rd_9, rd_10, rd_11, rd_12, rd_13, rd_14, rd_15, rd_16, rd_17, rd_18, rd_19, rd_20, rd_21, rd_22, rd_23, rd_24, rd_25, rd_26, rd_27, rd_28, rd_29, rd_30, rd_31, rd_32, rd_33, rd_34, rd_35, rd_36, rd_37, rd_38, rd_39, rd_40, rd_41, rd_42, rd_43, rd_44, rd_45, Int.reduceToNat, flat_int, flat_str, flat_bl, flat_non, flat_bag, flat_lst, flat_tup, flat_obj, List.all_cons, List.all_nil, Bool.and_true, Bool.true_and, Bool.and_false, Bool.false_and, keepIf_t, keepIf_f, frz_eq, frzAt_cons, frzAt_nil, List.set_cons_succ, List.set_cons_zero, subD_int, addD_int, negD_int, asI_int, asB_bl, truD_bl, lenF_lst, lenF_tup, intF_int, intF_bl, absF_int, ltD_int, leD_int, gtD_int, geD_int, eqD_int, eqD_str, neD_int, neD_str, inD_str, notInD_str, slD_lst, slD_scr, revD_lst, itemsD_lst, itemsD_tup, itemsD_str, Bool.not_true, Bool.not_false, ixD_l, ixD_t, ofSome, atI_0, atI_1, atI_2, atI_3, atI_4, atI_app, slotD_obj, propD_obj, propN_obj, isC_obj, get0, get1, get2, get3, getS, bName_eq, bTup_eq, bCons_eq, bNil_eq, setAll2_cons, setAll2_nil, setAllD_cons, setAllD_nil, wipeD_cons, wipeD_nil, isi_str_str, isi_int_int, isi_bool_int, List.getElem?_cons_zero, List.getElem?_cons_succ, lenF_str, modD_int, divD_int, addD_str, addD_lst, slD_str, revD_str, ixD_str, ixD_str1, ixD_strmod, rng1_int, rng2_int, mulD_intl, mulD_intr, intF_dig, q_comp0, q_compT])
local macro_rules | `(tactic| walk_at "env") => `(tactic| try simp -implicitDefEqProofs only [List.all_cons, List.all_nil, Bool.and_true, Bool.true_and, setAll2_cons, setAll2_nil, bName_eq, env0, List.replicate, flat_int, flat_str, flat_bl, flat_non, flat_bag, flat_lst, flat_tup, flat_obj, keepIf_t, keepIf_f, frz_eq, frzAt_cons, frzAt_nil, List.contains_cons, List.contains_nil, Nat.reduceBEq, Nat.reduceAdd, Bool.or_true, Bool.or_false, Bool.true_or, if_true, Bool.false_eq_true, if_false, Option.map_some, Option.map_none, see_val, see_own, List.set_cons_succ, List.set_cons_zero])
/-! window_at -/
def F_window_at : Env2 → M Out :=
  (retM [0, 1, 2, 3] (e2 joinF (cst (.str [])) (eN (nLc [3] (iRg2 (aC (e1 negD (rdEnv 2)) (aC (e2 addD (rdEnv 2) (cst (.int 1))) aN))) (bName 3) cT (e2 ixF (rdEnv 0) (e2 modD (e2 addD (rdEnv 1) (rdEnv 3)) (eCall lenG (aC (rdEnv 0) aN))))))))
def R_window_at : List D → M D := runD 4 F_window_at
/-! from_windows -/
def F_from_windows : Env2 → M Out :=
  (seqM (ifM [0] (tOrM (tNotM (tVal (e1 (isiD2 "list" "tuple") (rdEnv 0)))) (t2 (eqD false) (eCall lenG (aC (rdEnv 0) aN)) (cst (.int 0))))
  (fun _ => M.fail)
  sNil)
  (seqM (ifM [0, 3] (tNotM (tVal (eCall allF (aC (eN (nLc [3] (iAny (rdEnv 0)) (bName 3) cT (eAnd (eCall R_is_row (aC (rdEnv 3) (aC (cst (.str [48, 49, 50, 51])) aN))) (e2 (eqD false) (e2 modD (eCall lenG (aC (rdEnv 3) aN)) (cst (.int 2))) (cst (.int 1)))))) aN))))
  (fun _ => M.fail)
  sNil)
  (seqM (setM 1 [0] (e2 divD (eCall lenG (aC (e2 ixF (rdEnv 0) (cst (.int 0))) aN)) (cst (.int 2))))
  (seqM (ifM [0, 3] (tNotM (tVal (eCall allF (aC (eN (nLc [3] (iAny (rdEnv 0)) (bName 3) cT (e2 (eqD false) (eCall lenG (aC (rdEnv 3) aN)) (eCall lenG (aC (e2 ixF (rdEnv 0) (cst (.int 0))) aN))))) aN))))
  (fun _ => M.fail)
  sNil)
  (seqM (setM 2 [0, 1, 3] (e2 joinF (cst (.str [])) (eN (nLc [3] (iAny (rdEnv 0)) (bName 3) cT (e2 ixF (rdEnv 3) (rdEnv 1))))))
  (seqM (ifM [0, 1, 2, 4] (t2 (eqD true) (eN (nLc [4] (iRg1 (aC (eCall lenG (aC (rdEnv 2) aN)) aN)) (bName 4) cT (eCall R_window_at (aC (rdEnv 2) (aC (rdEnv 4) (aC (rdEnv 1) aN)))))) (eN (nCall listF (aC (rdEnv 0) aN))))
  (fun _ => M.fail)
  sNil)
  (retM [2] (rdEnv 2))))))))
def R_from_windows : List D → M D := runD 5 F_from_windows
/-! ### parts of rings -/
def seg (x : List Nat) (a : Int) (l : Nat) : List Nat := (List.range l).map fun (j : Nat) => rat x (a + (j : Int))
theorem seg_len (x : List Nat) (a : Int) (l : Nat) : (seg x a l).length = l := by simp [seg]
theorem seg_get {x : List Nat} {a : Int} {l j : Nat} (h : j < l) : (seg x a l).getD j 0 = rat x (a + (j : Int)) := by
  unfold seg
  rw [List.getD_eq_getElem?_getD, List.getElem?_map, List.getElem?_range h]; rfl
theorem row_seg {t : List Nat} {r : Nat} {x : List Nat} (h0 : 0 < x.length) (a : Int) (l : Nat) : rowL t r (seg x a l) = seg (ringL t r x) (a + 1) (l - 2) := by
  unfold rowL
  rw [seg_len]
  unfold seg
  refine List.map_congr_left fun k hk => ?_
  have hk := List.mem_range.mp hk
  show sgn t r ((seg x a l).getD k 0) ((seg x a l).getD (k + 1) 0) ((seg x a l).getD (k + 2) 0) = _
  rw [seg_get (by omega), seg_get (by omega), seg_get (by omega), rat_ring h0]
  congr 2 <;> omega
theorem row_seg_n {t : List Nat} {r : Nat} {x : List Nat} (h0 : 0 < x.length) : ∀ (n : Nat) (a : Int) (l : Nat), itN (rowL t r) n (seg x a l) = seg (itN (ringL t r) n x) (a + (n : Int)) (l - 2 * n)
  | 0, a, l => by rw [show a + ((0 : Nat) : Int) = a by omega]; rfl
  | n + 1, a, l => by
    rw [itN_succ, itN_succ, row_seg_n h0 n a l, row_seg (by rw [itN_ring_len]; exact h0), show l - 2 * n - 2 = l - 2 * (n + 1) by omega, show a + (n : Int) + 1 = a + ((n + 1 : Nat) : Int) by omega]
/-- a seat after n beats is told by the seats about it -/
theorem seat_told {t : List Nat} {r : Nat} {x : List Nat} (h0 : 0 < x.length) (n : Nat) (a : Int) : itN (rowL t r) n (seg x a (2 * n + 1)) = [rat (itN (ringL t r) n x) (a + (n : Int))] := by
  rw [row_seg_n h0, show 2 * n + 1 - 2 * n = 1 by omega]
  simp [seg]
theorem seg_sg {r : Nat} {x : List Nat} (h0 : 0 < x.length) (h : Sg r x) (a : Int) (l : Nat) : Sg r (seg x a l) := by
  intro c hc
  obtain ⟨k, hk, rfl⟩ := List.mem_map.mp hc
  have h1 := Int.emod_nonneg (a + (k : Int)) (by omega : (x.length : Int) ≠ 0)
  have h2 := Int.emod_lt_of_pos (a + (k : Int)) (by omega : (0 : Int) < x.length)
  unfold rat
  rw [List.getD_eq_getElem?_getD, List.getElem?_eq_getElem (by omega), Option.getD_some]
  exact h _ (List.getElem_mem _)
theorem getD_ext {x y : List Nat} (hl : x.length = y.length) (h : ∀ k, k < y.length → x.getD k 0 = y.getD k 0) : x = y := by
  apply List.ext_getElem hl
  intro k h1 h2
  have := h k h2
  rw [List.getD_eq_getElem?_getD, List.getD_eq_getElem?_getD, List.getElem?_eq_getElem h1, List.getElem?_eq_getElem h2] at this
  exact this
theorem seg_left {w e : List Nat} {l : Nat} (h : w.length = l) : seg (w ++ e) 0 l = w := by
  refine getD_ext (by rw [seg_len, h]) fun k hk => ?_
  rw [seg_get (by omega), Int.zero_add, rat_nat (by rw [List.length_append]; omega), List.getD_eq_getElem?_getD, List.getElem?_append_left hk, ← List.getD_eq_getElem?_getD]
theorem seg_right {w e : List Nat} {l : Nat} (h : w.length = l) : seg (e ++ w) (e.length : Int) l = w := by
  refine getD_ext (by rw [seg_len, h]) fun k hk => ?_
  rw [seg_get (by omega), show (e.length : Int) + (k : Int) = ((e.length + k : Nat) : Int) by omega, rat_nat (by rw [List.length_append]; omega), List.getD_eq_getElem?_getD, List.getElem?_append_right (by omega), show e.length + k - e.length = k by omega, ← List.getD_eq_getElem?_getD]
theorem seg_turn {x : List Nat} (h0 : 0 < x.length) (p a : Int) (l : Nat) : seg (turnL x p) a l = seg x (a - p) l := by
  unfold seg
  refine List.map_congr_left fun k hk => ?_
  rw [rat_turn h0, show a + (k : Int) - p = a - p + (k : Int) by omega]
theorem seg_mod {x : List Nat} {a b : Int} (h : a % (x.length : Int) = b % (x.length : Int)) (l : Nat) : seg x a l = seg x b l := by
  unfold seg
  refine List.map_congr_left fun k hk => rat_mod ?_
  rw [Int.add_emod, h, ← Int.add_emod]
theorem window_at_is {x : List Nat} {k n : Nat} (h0 : 0 < x.length) (hz : x.length ≤ 1000) (hn : n ≤ 100) (hk : k ≤ 1000) : R_window_at [.str x, .int (k : Int), .int (n : Int)] = M.ret (.str (seg x ((k : Int) - (n : Int)) (2 * n + 1))) := by
  simp only [R_window_at, F_window_at]
  walk_at "ev"
  rw [show ((n : Int) + 1 - -(n : Int)).toNat = 2 * n + 1 by omega]
  rw [compM_mapI (l := fun (j : Nat) => [(3, D.int (-(n : Int) + (j : Int)))]) (y := fun (j : Nat) => D.str [rat x ((k : Int) - (n : Int) + (j : Int))]) (fun j hj => ⟨rfl, rfl, ?_⟩)]
  · walk_at "ev"
    rw [joinF_one (by simp; omega)]
    rfl
  · have h1 := Int.emod_nonneg ((k : Int) + (-(n : Int) + (j : Int))) (by omega : (x.length : Int) ≠ 0)
    have h2 := Int.emod_lt_of_pos ((k : Int) + (-(n : Int) + (j : Int))) (by omega : (0 : Int) < x.length)
    walk_at "ev"
    unfold rat
    rw [show (k : Int) + (-(n : Int) + (j : Int)) = (k : Int) - (n : Int) + (j : Int) by omega]
theorem seg_self {x : List Nat} : seg x 0 x.length = x := by
  have := seg_left (w := x) (e := []) (l := x.length) rfl
  rwa [List.append_nil] at this
theorem seg_mid {x : List Nat} {k n : Nat} (hk : k < x.length) : (seg x ((k : Int) - (n : Int)) (2 * n + 1)).getD n 0 = x.getD k 0 := by
  rw [seg_get (by omega), show (k : Int) - (n : Int) + (n : Int) = (k : Int) by omega, rat_nat hk]
def winD (x : List Nat) (n : Nat) : List D := (List.range x.length).map fun (k : Nat) => D.str (seg x ((k : Int) - (n : Int)) (2 * n + 1))
theorem winD_len (x : List Nat) (n : Nat) : (winD x n).length = x.length := by simp [winD]
theorem winD_at {x : List Nat} {n k : Nat} (hk : k < x.length) : atI (winD x n) (k : Int) = some (.str (seg x ((k : Int) - (n : Int)) (2 * n + 1))) := atI_nat (by unfold winD; rw [List.getElem?_map, List.getElem?_range hk]; rfl)
theorem comp_win {x : List Nat} {n : Nat} {bs : D → Option (List (Nat × D))} {c : DL.Env → M Bool} {e : DL.Env → M D} {ρ : DL.Env} {l : Nat → List (Nat × D)} {y : Nat → D} (h : ∀ k, k < x.length → bs (.str (seg x ((k : Int) - (n : Int)) (2 * n + 1))) = some (l k) ∧ c (setAllD ρ (l k)) = M.ret true ∧ e (setAllD ρ (l k)) = M.ret (y k)) : compM bs c e ρ (winD x n) = M.ret ((List.range x.length).map y) := compM_mapI fun k hk => h k (List.mem_range.mp hk)
theorem winD_ok {x : List Nat} {n r : Nat} (hr : r ≤ 2) (h0 : 0 < x.length) (hx : Sg r x) (hz : x.length ≤ 100) (hn : n ≤ 10) : okA (.lst (winD x n)) = true := by
  refine okA_lst (k := 0) (w := 410) (fun d hd => ?_) (by omega) (by rw [winD_len]; omega)
  obtain ⟨k, _, rfl⟩ := List.mem_map.mp hd
  exact sg_okd hr (seg_sg h0 hx _ _) (by rw [seg_len]; omega)
theorem from_windows_is {x : List Nat} {n r : Nat} (hr : r ≤ 2) (h0 : 0 < x.length) (hx : Sg r x) (hz : x.length ≤ 100) (hn : n ≤ 10) : R_from_windows [.lst (winD x n)] = M.ret (.str x) := by
  have wl := winD_len x n
  have w0 := winD_at (x := x) (n := n) h0
  have w0 : atI (winD x n) 0 = some (.str (seg x (((0 : Nat) : Int) - (n : Int)) (2 * n + 1))) := w0
  have sl := seg_len x (((0 : Nat) : Int) - (n : Int)) (2 * n + 1)
  have fl : (winD x n).all D.flat = true := by simp [winD, D.flat]
  simp only [R_from_windows, F_from_windows]
  walk_at "ev"
  rw [show isiD2 "list" "tuple" (D.lst (winD x n)) = M.ret (.bl true) from rfl]
  walk_at "ev"
  rw [cnd_df (by omega)]
  walk_at "ev"
  rw [comp_win (l := fun k => [(3, D.str (seg x ((k : Int) - (n : Int)) (2 * n + 1)))]) (y := fun k => D.bl true) fun k hk => ⟨rfl, rfl, ?_⟩]
  · walk_at "ev"
    rw [allF_map (List.range x.length) (fun _ => true), show ((List.range x.length).all fun _ => true) = true by simp]
    walk_at "ev"
    rw [w0]
    walk_at "ev"
    rw [sl, show (((2 * n + 1 : Nat) : Int) / 2) = (n : Int) by omega]
    walk_at "ev"
    rw [comp_win (l := fun k => [(3, D.str (seg x ((k : Int) - (n : Int)) (2 * n + 1)))]) (y := fun k => D.bl true) fun k hk => ⟨rfl, rfl, ?_⟩]
    · walk_at "ev"
      rw [allF_map (List.range x.length) (fun _ => true), show ((List.range x.length).all fun _ => true) = true by simp]
      walk_at "ev"
      rw [comp_win (l := fun k => [(3, D.str (seg x ((k : Int) - (n : Int)) (2 * n + 1)))]) (y := fun k => D.str [x.getD k 0]) fun k hk => ⟨rfl, rfl, ?_⟩]
      · walk_at "ev"
        rw [joinF_one (by simp; omega)]
        have ex : ((List.range x.length).map fun k => x.getD k 0) = x := getD_ext (by simp) fun k hk => by
          rw [List.getD_eq_getElem?_getD, List.getElem?_map, List.getElem?_range hk]; rfl
        rw [ex]
        walk_at "ev"
        rw [Int.toNat_natCast]
        rw [compM_mapI (l := fun (k : Nat) => [(4, D.int (0 + (k : Int)))]) (y := fun (k : Nat) => D.str (seg x ((k : Int) - (n : Int)) (2 * n + 1))) (fun k hk => ⟨rfl, rfl, ?_⟩)]
        · walk_at "ev"
          rw [show ((List.range x.length).map fun (k : Nat) => D.str (seg x ((k : Int) - (n : Int)) (2 * n + 1))) = winD x n from rfl, neD_same (winD_ok hr h0 hx hz hn)]
          walk_at "ev"
        · have hk := List.mem_range.mp hk
          walk_at "ev"
          rw [Int.zero_add, window_at_is h0 (by omega) (by omega) (by omega)]
      · have sk := seg_len x ((k : Int) - (n : Int)) (2 * n + 1)
        walk_at "ev"
        rw [Int.toNat_natCast, seg_mid hk]
    · have sk := seg_len x ((k : Int) - (n : Int)) (2 * n + 1)
      walk_at "ev"
      rw [w0]
      walk_at "ev"
      rw [sk, sl, decide_eq_true rfl]
  · have sk := seg_len x ((k : Int) - (n : Int)) (2 * n + 1)
    walk_at "ev"
    rw [is_row_is _ _ (by omega)]
    walk_at "ev"
    have ha : ((seg x ((k : Int) - (n : Int)) (2 * n + 1)).all fun c => decide (c ∈ [48, 49, 50, 51])) = true := by
      rw [List.all_eq_true]
      intro c hc
      have := seg_sg h0 hx _ _ c hc
      have : c = 48 ∨ c = 49 ∨ c = 50 ∨ c = 51 := by omega
      simp
      omega
    rw [ha]
    walk_at "ev"
    rw [sk, decide_eq_true (by omega)]
end LW
set_option Elab.async false
set_option maxRecDepth 100000
set_option autoImplicit false
set_option linter.unusedVariables false
set_option maxHeartbeats 4000000
namespace LW
open PySem L2 PySem.Spec PyProof.Rows DL
local macro_rules | `(tactic| walk_at "dis") => `(tactic| first | assumption | omega | (simp only [List.length_map, List.length_range, List.length_append, List.length_cons, List.length_nil, List.length_reverse, List.length_take, List.length_drop, List.length_replicate, List.length_singleton]; omega) | (simp; done))
local macro_rules | `(tactic| walk_at "ev") => `(tactic| try simp -implicitDefEqProofs -dsimp (disch := walk_at "dis") only [↓q_seq, ↓q_seqK_nx, ↓q_seqK_rt, ↓q_seqK_rn, ↓q_seqK_bk, ↓q_seqK_ct, ↓q_runD, ↓q_runN, q_runK_rt, q_runK_rn, q_runK_nx, q_runKN_rn, ↓q_set, ↓q_setN, ↓q_ret, ↓q_retN, ↓q_drop, ↓q_if, ↓q_unp, q_unpK, ↓q_par, q_parK, ↓q_app, q_appK, ↓q_aug, q_augK, q_addF_int, q_addF_str, q_guard, ↓q_for, ↓q_forR, q_loopK_nx, q_loopK_ct, q_loopK_bk, q_loopK_rt, q_loopK_rn, ↓q_sNil, ↓q_e2, ↓q_t2, ↓q_e1, ↓q_cst, ↓q_aN, ↓q_aC, ↓q_call, ↓q_callN, ↓q_eN, ↓q_nLst, q_lstK, ↓q_eTup, q_tupK, ↓q_tVal, ↓q_tNot, ↓q_tAnd, ↓q_tOr, ↓q_eAnd, ↓q_eOr, ↓q_eNot, ↓q_eIf, ↓q_iAny, ↓q_iRg1, ↓q_iRg2, ↓q_iEnum, ↓q_nLc, ↓q_cT, ↓q_oN, ↓q_oS, ↓q_eSl, ↓q_eChain, ↓q_tBl, ↓q_eMake, ↓q_eMeth, ↓q_nMeth, ↓q_n1M, ↓q_iSeq, q_selK, q_self, ↓q_iTwo, ↓q_iTwoS, q_two2s, q_two2, ↓q_ext, q_extK, ↓q_nLc2, q_count, q_inE, q_notInE, q_is_non, q_is_str, q_is_int, q_is_tup, q_is_lst, q_isnt_non, q_isnt_str, q_isnt_int, q_isnt_tup, q_isnt_lst, q_list_l, q_list_t, q_tuple_l, q_tuple_t, q_max2, q_min2, q_sum, q_ixF_s, q_ixF_l, q_ixF_t, q_ixF_b, q_inF_s, q_inF_l, q_inF_t, q_lenG_s, q_lenG_l, q_lenG_t, q_lenG_d, q_lenG_dt, ↓q_setD, ↓q_dput, q_dputK, q_keyI, q_keyS, q_seeT, q_toDv, q_toDl, q_toDk, q_toDt, q_toDs0, q_toDs1, q_toDsm, q_fls0, q_fls1, q_flv, q_fll, q_flk, q_flt, q_flsm, q_sloV, q_sloK, q_sloT, q_sloL, q_sloLl, ↓q_oV, ↓q_oL, ↓q_oC, ↓q_oaN, ↓q_oaC, ↓q_oLst, q_oLstK, ↓q_setO, ↓q_parO, q_parOK, ↓q_parO3, q_parO3K, ↓q_appAt, q_appAtK, q_appAtK2, q_flatS, q_flatI, q_flatS2, q_mapv0, q_sloL0, bnd_ret, bnd_assoc, bnd_assoc', bnd_r, cnd_t, cnd_f, cnd_bnd, fail_bnd, bind_bnd, str01, List.cons.injEq, and_true, decide_true, decide_false, cut_toN, cut_fromN, cut_from1N, cut_to1N, cut_to1, cut_to2, cut_to3, cut_from1, cut_toM1, cut_fromM1, DL.startD, List.map_cons, List.map_nil, List.length_cons, List.length_nil, Nat.reduceAdd, Nat.reduceSub, List.replicate, List.cons_append, List.nil_append, view_eq, viewAt_cons, viewAt_nil, List.contains_cons, List.contains_nil, Nat.reduceBEq, Bool.or_true, Bool.or_false, Bool.true_or, Bool.false_or, if_true, Bool.false_eq_true, if_false, Option.map_some, Option.map_none, see_val, see_own, rd_0, rd_1, rd_2, rd_3, rd_4, rd_5, rd_6, rd_7, rd_8, rd_9, rd_10, rd_11, rd_12, rd_13, rd_14, rd_15, rd_16, rd_17, rd_18, rd_19, rd_20, rd_21, rd_22, rd_23, rd_24, rd_25, rd_26, rd_27, rd_28, rd_29, rd_30, rd_31, rd_32, rd_33, rd_34, rd_35, rd_36, rd_37, rd_38, rd_39, rd_40, rd_41, rd_42, rd_43, rd_44, rd_45, Int.reduceToNat, flat_int, flat_str, flat_bl, flat_non, flat_bag, flat_lst, flat_tup, flat_obj, List.all_cons, List.all_nil, Bool.and_true, Bool.true_and, Bool.and_false, Bool.false_and, keepIf_t, keepIf_f, frz_eq, frzAt_cons, frzAt_nil, List.set_cons_succ, List.set_cons_zero, subD_int, addD_int, negD_int, asI_int, asB_bl, truD_bl, lenF_lst, lenF_tup, intF_int, intF_bl, absF_int, ltD_int, leD_int, gtD_int, geD_int, eqD_int, eqD_str, neD_int, neD_str, inD_str, notInD_str, slD_lst, slD_scr, revD_lst, itemsD_lst, itemsD_tup, itemsD_str, Bool.not_true, Bool.not_false, ixD_l, ixD_t, ofSome, atI_0, atI_1, atI_2, atI_3, atI_4, atI_app, slotD_obj, propD_obj, propN_obj, isC_obj, get0, get1, get2, get3, getS, bName_eq, bTup_eq, bCons_eq, bNil_eq, setAll2_cons, setAll2_nil, setAllD_cons, setAllD_nil, wipeD_cons, wipeD_nil, isi_str_str, isi_int_int, isi_bool_int, List.getElem?_cons_zero, List.getElem?_cons_succ, lenF_str, modD_int, divD_int, addD_str, addD_lst, slD_str, revD_str, ixD_str, ixD_str1, ixD_strmod, rng1_int, rng2_int, mulD_intl, mulD_intr, intF_dig])
local macro_rules | `(tactic| walk_at "evl") => `(tactic| try simp -implicitDefEqProofs -dsimp (disch := walk_at "dis") only [↓q_seq, ↓q_seqK_nx, ↓q_seqK_rt, ↓q_seqK_rn, ↓q_seqK_bk, ↓q_seqK_ct, ↓q_runD, ↓q_runN, q_runK_rt, q_runK_rn, q_runK_nx, q_runKN_rn, ↓q_set, ↓q_setN, ↓q_ret, ↓q_retN, ↓q_drop, ↓q_if, ↓q_unp, q_unpK, ↓q_par, q_parK, ↓q_app, q_appK, ↓q_aug, q_augK, q_addF_int, q_addF_str, q_guard, ↓q_for, ↓q_forR, q_loopK_nx, q_loopK_ct, q_loopK_bk, q_loopK_rt, q_loopK_rn, ↓q_sNil, ↓q_e2, ↓q_t2, ↓q_e1, ↓q_cst, ↓q_aN, ↓q_aC, ↓q_call, ↓q_callN, ↓q_eN, ↓q_nLst, q_lstK, ↓q_eTup, q_tupK, ↓q_tVal, ↓q_tNot, ↓q_tAnd, ↓q_tOr, ↓q_eAnd, ↓q_eOr, ↓q_eNot, ↓q_eIf, ↓q_iAny, ↓q_iRg1, ↓q_iRg2, ↓q_iEnum, ↓q_nLc, ↓q_cT, ↓q_oN, ↓q_oS, ↓q_eSl, ↓q_eChain, ↓q_tBl, ↓q_eMake, ↓q_eMeth, ↓q_nMeth, ↓q_n1M, ↓q_iSeq, q_selK, q_self, ↓q_iTwo, ↓q_iTwoS, q_two2s, q_two2, ↓q_ext, q_extK, ↓q_nLc2, q_count, q_inE, q_notInE, q_is_non, q_is_str, q_is_int, q_is_tup, q_is_lst, q_isnt_non, q_isnt_str, q_isnt_int, q_isnt_tup, q_isnt_lst, q_list_l, q_list_t, q_tuple_l, q_tuple_t, q_max2, q_min2, q_sum, q_ixF_s, q_ixF_l, q_ixF_t, q_ixF_b, q_inF_s, q_inF_l, q_inF_t, q_lenG_s, q_lenG_l, q_lenG_t, q_lenG_d, q_lenG_dt, ↓q_setD, ↓q_dput, q_dputK, q_keyI, q_keyS, q_seeT, q_toDv, q_toDl, q_toDk, q_toDt, q_toDs0, q_toDs1, q_toDsm, q_fls0, q_fls1, q_flv, q_fll, q_flk, q_flt, q_flsm, q_sloV, q_sloK, q_sloT, q_sloL, q_sloLl, ↓q_oV, ↓q_oL, ↓q_oC, ↓q_oaN, ↓q_oaC, ↓q_oLst, q_oLstK, ↓q_setO, ↓q_parO, q_parOK, ↓q_parO3, q_parO3K, ↓q_appAt, q_appAtK, q_appAtK2, q_flatS, q_flatI, q_flatS2, q_mapv0, q_sloL0, bnd_ret, bnd_assoc, bnd_assoc', bnd_r, cnd_t, cnd_f, cnd_bnd, fail_bnd, bind_bnd, str01, List.cons.injEq, and_true, decide_true, decide_false, cut_toN, cut_fromN, cut_from1N, cut_to1N, cut_to1, cut_to2, cut_to3, cut_from1, cut_toM1, cut_fromM1, DL.startD, List.map_cons, List.map_nil, List.length_cons, List.length_nil, Nat.reduceAdd, Nat.reduceSub, List.replicate, List.cons_append, List.nil_append, view_eq, viewAt_cons, viewAt_nil, List.contains_cons, List.contains_nil, Nat.reduceBEq, Bool.or_true, Bool.or_false, Bool.true_or, Bool.false_or, if_true, Bool.false_eq_true, if_false, Option.map_some, Option.map_none, see_val, see_own, rd_0, rd_1, rd_2, rd_3, rd_4, rd_5, rd_6, rd_7, rd_8, rd_9, rd_10, rd_11, rd_12, rd_13, rd_14, rd_15, rd_16, rd_17, rd_18, rd_19, rd_20, rd_21, rd_22, rd_23, rd_24, rd_25, rd_26, rd_27, rd_28, rd_29, rd_30, rd_31, rd_32, rd_33, rd_34, rd_35, rd_36, rd_37, rd_38, rd_39, rd_40, rd_41, rd_42, rd_43, rd_44, rd_45, Int.reduceToNat, flat_int, flat_str, flat_bl, flat_non, flat_bag, flat_lst, flat_tup, flat_obj, List.all_cons, List.all_nil, Bool.and_true, Bool.true_and, Bool.and_false, Bool.false_and, keepIf_t, keepIf_f, frz_eq, frzAt_cons, frzAt_nil, List.set_cons_succ, List.set_cons_zero, subD_int, addD_int, negD_int, asI_int, asB_bl, truD_bl, lenF_lst, lenF_tup, intF_int, intF_bl, absF_int, ltD_int, leD_int, gtD_int, geD_int, eqD_int, eqD_str, neD_int, neD_str, inD_str, notInD_str, slD_lst, slD_scr, revD_lst, itemsD_lst, itemsD_tup, itemsD_str, Bool.not_true, Bool.not_false, ixD_l, ixD_t, ofSome, atI_0, atI_1, atI_2, atI_3, atI_4, atI_app, slotD_obj, propD_obj, propN_obj, isC_obj, get0, get1, get2, get3, getS, bName_eq, bTup_eq, bCons_eq, bNil_eq, setAll2_cons, setAll2_nil, setAllD_cons, setAllD_nil, wipeD_cons, wipeD_nil, isi_str_str, isi_int_int, isi_bool_int, List.getElem?_cons_zero, List.getElem?_cons_succ, lenF_str, modD_int, divD_int, addD_str, addD_lst, slD_str, revD_str, ixD_str, ixD_str1, ixD_strmod, rng1_int, rng2_int, mulD_intl, mulD_intr, intF_dig, q_loop0, q_loopN, q_comp0, q_compT])
local macro_rules | `(tactic| walk_at "evc") => `(tactic| try simp -implicitDefEqProofs -dsimp (disch := walk_at "dis") only [↓q_seq, ↓q_seqK_nx, ↓q_seqK_rt, ↓q_seqK_rn, ↓q_seqK_bk, ↓q_seqK_ct, ↓q_runD, ↓q_runN, q_runK_rt, q_runK_rn, q_runK_nx, q_runKN_rn, ↓q_set, ↓q_setN, ↓q_ret, ↓q_retN, ↓q_drop, ↓q_if, ↓q_unp, q_unpK, ↓q_par, q_parK, ↓q_app, q_appK, ↓q_aug, q_augK, q_addF_int, q_addF_str, q_guard, ↓q_for, ↓q_forR, q_loopK_nx, q_loopK_ct, q_loopK_bk, q_loopK_rt, q_loopK_rn, ↓q_sNil, ↓q_e2, ↓q_t2, ↓q_e1, ↓q_cst, ↓q_aN, ↓q_aC, ↓q_call, ↓q_callN, ↓q_eN, ↓q_nLst, q_lstK, ↓q_eTup, q_tupK, ↓q_tVal, ↓q_tNot, ↓q_tAnd, ↓q_tOr, ↓q_eAnd, ↓q_eOr, ↓q_eNot, ↓q_eIf, ↓q_iAny, ↓q_iRg1, ↓q_iRg2, ↓q_iEnum, ↓q_nLc, ↓q_cT, ↓q_oN, ↓q_oS, ↓q_eSl, ↓q_eChain, ↓q_tBl, ↓q_eMake, ↓q_eMeth, ↓q_nMeth, ↓q_n1M, ↓q_iSeq, q_selK, q_self, ↓q_iTwo, ↓q_iTwoS, q_two2s, q_two2, ↓q_ext, q_extK, ↓q_nLc2, q_count, q_inE, q_notInE, q_is_non, q_is_str, q_is_int, q_is_tup, q_is_lst, q_isnt_non, q_isnt_str, q_isnt_int, q_isnt_tup, q_isnt_lst, q_list_l, q_list_t, q_tuple_l, q_tuple_t, q_max2, q_min2, q_sum, q_ixF_s, q_ixF_l, q_ixF_t, q_ixF_b, q_inF_s, q_inF_l, q_inF_t, q_lenG_s, q_lenG_l, q_lenG_t, q_lenG_d, q_lenG_dt, ↓q_setD, ↓q_dput, q_dputK, q_keyI, q_keyS, q_seeT, q_toDv, q_toDl, q_toDk, q_toDt, q_toDs0, q_toDs1, q_toDsm, q_fls0, q_fls1, q_flv, q_fll, q_flk, q_flt, q_flsm, q_sloV, q_sloK, q_sloT, q_sloL, q_sloLl, ↓q_oV, ↓q_oL, ↓q_oC, ↓q_oaN, ↓q_oaC, ↓q_oLst, q_oLstK, ↓q_setO, ↓q_parO, q_parOK, ↓q_parO3, q_parO3K, ↓q_appAt, q_appAtK, q_appAtK2, q_flatS, q_flatI, q_flatS2, q_mapv0, q_sloL0, bnd_ret, bnd_assoc, bnd_assoc', bnd_r, cnd_t, cnd_f, cnd_bnd, fail_bnd, bind_bnd, str01, List.cons.injEq, and_true, decide_true, decide_false, cut_toN, cut_fromN, cut_from1N, cut_to1N, cut_to1, cut_to2, cut_to3, cut_from1, cut_toM1, cut_fromM1, DL.startD, List.map_cons, List.map_nil, List.length_cons, List.length_nil, Nat.reduceAdd, Nat.reduceSub, List.replicate, List.cons_append, List.nil_append, view_eq, viewAt_cons, viewAt_nil, List.contains_cons, List.contains_nil, Nat.reduceBEq, Bool.or_true, Bool.or_false, Bool.true_or, Bool.false_or, if_true, Bool.false_eq_true, if_false, Option.map_some, Option.map_none, see_val, see_own, rd_0, rd_1, rd_2, rd_3, rd_4, rd_5, rd_6, rd_7, rd_8, rd_9, rd_10, rd_11, rd_12, rd_13, rd_14, rd_15, rd_16, rd_17, rd_18, rd_19, rd_20, rd_21, rd_22, rd_23, rd_24, rd_25, rd_26, rd_27, rd_28, rd_29, rd_30, rd_31, rd_32, rd_33, rd_34, rd_35, rd_36, rd_37, rd_38, rd_39, rd_40, rd_41, rd_42, rd_43, rd_44, rd_45, Int.reduceToNat, flat_int, flat_str, flat_bl, flat_non, flat_bag, flat_lst, flat_tup, flat_obj, List.all_cons, List.all_nil, Bool.and_true, Bool.true_and, Bool.and_false, Bool.false_and, keepIf_t, keepIf_f, frz_eq, frzAt_cons, frzAt_nil, List.set_cons_succ, List.set_cons_zero, subD_int, addD_int, negD_int, asI_int, asB_bl, truD_bl, lenF_lst, lenF_tup, intF_int, intF_bl, absF_int, ltD_int, leD_int, gtD_int, geD_int, eqD_int, eqD_str, neD_int, neD_str, inD_str, notInD_str, slD_lst, slD_scr, revD_lst, itemsD_lst, itemsD_tup, itemsD_str, Bool.not_true, Bool.not_false, ixD_l, ixD_t, ofSome, atI_0, atI_1, atI_2, atI_3, atI_4, atI_app, slotD_obj, propD_obj, propN_obj, isC_obj, get0, get1, get2, get3, getS, bName_eq, bTup_eq, bCons_eq, bNil_eq, setAll2_cons, setAll2_nil, setAllD_cons, setAllD_nil, wipeD_cons, wipeD_nil, isi_str_str, isi_int_int, isi_bool_int, List.getElem?_cons_zero, List.getElem?_cons_succ, lenF_str, modD_int, divD_int, addD_str, addD_lst, slD_str, revD_str, ixD_str, ixD_str1, ixD_strmod, rng1_int, rng2_int, mulD_intl, mulD_intr, intF_dig, q_comp0, q_compT])
local macro_rules | `(tactic| walk_at "env") => `(tactic| try simp -implicitDefEqProofs only [List.all_cons, List.all_nil, Bool.and_true, Bool.true_and, setAll2_cons, setAll2_nil, bName_eq, env0, List.replicate, flat_int, flat_str, flat_bl, flat_non, flat_bag, flat_lst, flat_tup, flat_obj, keepIf_t, keepIf_f, frz_eq, frzAt_cons, frzAt_nil, List.contains_cons, List.contains_nil, Nat.reduceBEq, Nat.reduceAdd, Bool.or_true, Bool.or_false, Bool.true_or, if_true, Bool.false_eq_true, if_false, Option.map_some, Option.map_none, see_val, see_own, List.set_cons_succ, List.set_cons_zero])
/-! ### runs that go alike -/
theorem IsPath.inj {α : Type} {f : α → α} {x : α} {m i j : Nat} (h : IsPath f x m) (hi : i < m) (hj : j < m) (e : itN f i x = itN f j x) : i = j := by
  have h1 := itL_get (f := f) (x := x) hi
  have h2 := itL_get (f := f) (x := x) hj
  rw [← e] at h2
  exact (List.getElem?_inj (by rw [itL_len]; exact hi) h.nd).mp (h1.trans h2.symm)
theorem IsPath.early_uniq {f : List Nat → List Nat} {x : List Nat} {m j : Nat} (h : IsPath f x m) (hj : j < m) (e : itN f j x = itN f m x) : early f x m = j :=
  h.inj h.early_lt hj (h.early_eq.trans e.symm)
theorem itN_conj {α β : Type} {f : α → α} {g : β → β} {φ : α → β} {x : α} (h : ∀ i, g (φ (itN f i x)) = φ (itN f (i + 1) x)) : ∀ i, itN g i (φ x) = φ (itN f i x)
  | 0 => rfl
  | i + 1 => by rw [itN_succ, itN_conj h i, h i]
theorem path_conj {f g : List Nat → List Nat} {φ : List Nat → List Nat} {x : List Nat} {m : Nat} (hp : IsPath f x m) (h : ∀ i, g (φ (itN f i x)) = φ (itN f (i + 1) x)) (inj : ∀ i j, φ (itN f i x) = φ (itN f j x) → itN f i x = itN f j x) : IsPath g (φ x) m ∧ early g (φ x) m = early f x m := by
  have e1 : itL g (φ x) m = (itL f x m).map φ := by
    unfold itL
    rw [List.map_map]
    exact List.map_congr_left fun i _ => itN_conj h i
  have h2 : IsPath g (φ x) m := by
    refine ⟨?_, ?_⟩
    · rw [e1]
      refine nodup_map_inj hp.nd fun a ha b hb e => ?_
      obtain ⟨i, _, rfl⟩ := mem_itL.mp ha
      obtain ⟨j, _, rfl⟩ := mem_itL.mp hb
      exact inj i j e
    · rw [e1, itN_conj h]
      exact List.mem_map_of_mem hp.back
  exact ⟨h2, h2.early_uniq hp.early_lt (by rw [itN_conj h, itN_conj h, hp.early_eq])⟩
/-- the run from a later stand -/
theorem path_tail {f : List Nat → List Nat} {x : List Nat} {m a : Nat} (hp : IsPath f x m) (ha : a < m) : IsPath f (itN f a x) (max (m - early f x m) (m - a)) := by
  have hlt := hp.early_lt
  have hee := hp.early_eq
  generalize hE : early f x m = e at *
  have per : itN f (e + (m - e)) x = itN f e x := by rw [show e + (m - e) = m by omega]; exact hee.symm
  have red : ∀ n, e ≤ n → itN f n x = itN f (e + (n - e) % (m - e)) x := fun n hn => itN_wrap per hn
  have it : ∀ i, itN f i (itN f a x) = itN f (i + a) x := fun i => (itN_add f i a x).symm
  refine ⟨?_, ?_⟩
  · unfold itL
    refine nodup_map_inj List.nodup_range fun i hi j hj h => ?_
    have hi := List.mem_range.mp hi
    have hj := List.mem_range.mp hj
    rw [it, it] at h
    by_cases hc : a ≤ e
    · exact (by have := hp.inj (show i + a < m by omega) (show j + a < m by omega) h; omega)
    · rw [red (i + a) (by omega), red (j + a) (by omega)] at h
      have m1 := Nat.mod_lt (i + a - e) (show 0 < m - e by omega)
      have m2 := Nat.mod_lt (j + a - e) (show 0 < m - e by omega)
      have h3 := hp.inj (show e + (i + a - e) % (m - e) < m by omega) (show e + (j + a - e) % (m - e) < m by omega) h
      have h4 : (i + a - e) % (m - e) = (j + a - e) % (m - e) := by omega
      have i1 : i < m - e := by omega
      have j1 : j < m - e := by omega
      have q1 := Nat.mod_add_div (i + a - e) (m - e)
      have q2 := Nat.mod_add_div (j + a - e) (m - e)
      rw [h4] at q1
      have : (i + a - e) / (m - e) = (j + a - e) / (m - e) := by
        apply Classical.byContradiction
        intro hne
        rcases Nat.lt_or_gt_of_ne hne with hl | hl
        · have := Nat.mul_le_mul_left (m - e) (Nat.succ_le_of_lt hl)
          rw [Nat.mul_succ] at this
          omega
        · have := Nat.mul_le_mul_left (m - e) (Nat.succ_le_of_lt hl)
          rw [Nat.mul_succ] at this
          omega
      rw [this] at q1
      omega
  · rw [it]
    refine mem_itL.mpr ?_
    by_cases hc : a ≤ e
    · refine ⟨e - a, by omega, ?_⟩
      rw [it, show max (m - e) (m - a) + a = m by omega, show e - a + a = e by omega]
      exact hee
    · refine ⟨0, by omega, ?_⟩
      rw [it, show max (m - e) (m - a) = m - e by omega]
      have := itN_per per 1 (a - e)
      rw [show e + (a - e) + (m - e) * 1 = m - e + a by omega, show e + (a - e) = a by omega] at this
      rw [Nat.zero_add]
      exact this.symm
/-! ### twice, and from the other side -/
theorem rat_two {x : List Nat} (h0 : 0 < x.length) (i : Int) : rat (x ++ x) i = rat x i := by
  have h1 := Int.emod_nonneg i (by omega : ((2 * x.length : Nat) : Int) ≠ 0)
  have h2 := Int.emod_lt_of_pos i (by omega : (0 : Int) < ((2 * x.length : Nat) : Int))
  have e : i % ((2 * x.length : Nat) : Int) % (x.length : Int) = i % (x.length : Int) := Int.emod_emod_of_dvd _ ⟨2, by omega⟩
  unfold rat
  rw [show (x ++ x).length = 2 * x.length by rw [List.length_append]; omega]
  generalize i % ((2 * x.length : Nat) : Int) = j at *
  rw [← e]
  by_cases hj : j < (x.length : Int)
  · rw [Int.emod_eq_of_lt h1 hj, List.getD_eq_getElem?_getD, List.getElem?_append_left (by omega), ← List.getD_eq_getElem?_getD]
  · have : j % (x.length : Int) = j - x.length := by
      rw [← Int.sub_emod_right, Int.emod_eq_of_lt (by omega) (by omega)]
    rw [this, List.getD_eq_getElem?_getD, List.getElem?_append_right (by omega), ← List.getD_eq_getElem?_getD]
    congr 1
    omega
theorem ring_two {t : List Nat} {r : Nat} {x : List Nat} (h0 : 0 < x.length) : ringL t r (x ++ x) = ringL t r x ++ ringL t r x := by
  refine rat_ext (by rw [ringL_len, List.length_append, List.length_append, ringL_len]) fun i => ?_
  rw [rat_ring (by rw [List.length_append]; omega), rat_two h0, rat_two h0, rat_two h0, rat_two (by rw [ringL_len]; exact h0), rat_ring h0]
theorem turn_two {x : List Nat} (h0 : 0 < x.length) (p : Int) : turnL (x ++ x) p = turnL x p ++ turnL x p := by
  refine rat_ext (by rw [turnL_len, List.length_append, List.length_append, turnL_len]) fun i => ?_
  rw [rat_turn (by rw [List.length_append]; omega), rat_two h0, rat_two (by rw [turnL_len]; exact h0), rat_turn h0]
theorem two_inj {x y : List Nat} (h : x ++ x = y ++ y) : x = y := by
  have hl := congrArg List.length h
  rw [List.length_append, List.length_append] at hl
  exact (List.append_inj h (by omega)).1
theorem rat_rev {x : List Nat} (h0 : 0 < x.length) (i : Int) : rat x.reverse i = rat x (-1 - i) := by
  have h1 := Int.emod_nonneg i (by omega : (x.length : Int) ≠ 0)
  have h2 := Int.emod_lt_of_pos i (by omega : (0 : Int) < x.length)
  have e : (-1 - i) % (x.length : Int) = (x.length : Int) - 1 - i % (x.length : Int) := by
    have hd := Int.emod_add_mul_ediv i (x.length : Int)
    have e2 : (-1 - i) = ((x.length : Int) - 1 - i % (x.length : Int)) + (x.length : Int) * (-1 - i / (x.length : Int)) := by
      rw [Int.mul_sub, Int.mul_neg, Int.mul_one]
      generalize (x.length : Int) * (i / (x.length : Int)) = w at *
      omega
    rw [e2, Int.add_mul_emod_self_left, Int.emod_eq_of_lt (by omega) (by omega)]
  unfold rat
  rw [List.length_reverse, e, List.getD_eq_getElem?_getD, List.getElem?_reverse (by omega), ← List.getD_eq_getElem?_getD]
  congr 1
  omega
def mirT (t : List Nat) : List Nat := [t.getD 0 0, t.getD 2 0, t.getD 1 0, t.getD 3 0]
theorem sgn_mir (t : List Nat) (r a b c : Nat) : sgn (mirT t) r a b c = sgn t r c b a := by
  unfold sgn mirT
  by_cases h1 : a = 49 <;> by_cases h2 : c = 49 <;> simp [h1, h2]
theorem ring_mir {t : List Nat} {r : Nat} {x : List Nat} (h0 : 0 < x.length) : ringL (mirT t) r x.reverse = (ringL t r x).reverse := by
  refine rat_ext (by rw [ringL_len, List.length_reverse, List.length_reverse, ringL_len]) fun i => ?_
  rw [rat_ring (by rw [List.length_reverse]; exact h0), rat_rev h0, rat_rev h0, rat_rev h0, rat_rev (by rw [ringL_len]; exact h0), rat_ring h0, sgn_mir]
  congr 2 <;> omega
theorem mirT_bin {t : List Nat} (h : BinT t) : BinT (mirT t) := by
  refine ⟨rfl, fun c hc => ?_⟩
  have g : ∀ k, k < 4 → t.getD k 0 = 48 ∨ t.getD k 0 = 49 := fun k hk => by
    rw [List.getD_eq_getElem?_getD, List.getElem?_eq_getElem (by rw [h.1]; exact hk), Option.getD_some]
    exact h.2 _ (List.getElem_mem _)
  simp only [mirT, List.mem_cons, List.not_mem_nil, or_false] at hc
  rcases hc with rfl | rfl | rfl | rfl
  · exact g 0 (by omega)
  · exact g 2 (by omega)
  · exact g 1 (by omega)
  · exact g 3 (by omega)
end LW
set_option Elab.async false
set_option maxRecDepth 100000
set_option autoImplicit false
set_option linter.unusedVariables false
set_option maxHeartbeats 4000000
namespace LW
open PySem L2 PySem.Spec PyProof.Rows DL
local macro_rules | `(tactic| walk_at "dis") => `(tactic| first | assumption | omega | (simp only [List.length_map, List.length_range, List.length_append, List.length_cons, List.length_nil, List.length_reverse, List.length_take, List.length_drop, List.length_replicate, List.length_singleton]; omega) | (simp; done))
local macro_rules | `(tactic| walk_at "ev") => `(tactic| try simp -implicitDefEqProofs -dsimp (disch := walk_at "dis") only [↓q_seq, ↓q_seqK_nx, ↓q_seqK_rt, ↓q_seqK_rn, ↓q_seqK_bk, ↓q_seqK_ct, ↓q_runD, ↓q_runN, q_runK_rt, q_runK_rn, q_runK_nx, q_runKN_rn, ↓q_set, ↓q_setN, ↓q_ret, ↓q_retN, ↓q_drop, ↓q_if, ↓q_unp, q_unpK, ↓q_par, q_parK, ↓q_app, q_appK, ↓q_aug, q_augK, q_addF_int, q_addF_str, q_guard, ↓q_for, ↓q_forR, q_loopK_nx, q_loopK_ct, q_loopK_bk, q_loopK_rt, q_loopK_rn, ↓q_sNil, ↓q_e2, ↓q_t2, ↓q_e1, ↓q_cst, ↓q_aN, ↓q_aC, ↓q_call, ↓q_callN, ↓q_eN, ↓q_nLst, q_lstK, ↓q_eTup, q_tupK, ↓q_tVal, ↓q_tNot, ↓q_tAnd, ↓q_tOr, ↓q_eAnd, ↓q_eOr, ↓q_eNot, ↓q_eIf, ↓q_iAny, ↓q_iRg1, ↓q_iRg2, ↓q_iEnum, ↓q_nLc, ↓q_cT, ↓q_oN, ↓q_oS, ↓q_eSl, ↓q_eChain, ↓q_tBl, ↓q_eMake, ↓q_eMeth, ↓q_nMeth, ↓q_n1M, ↓q_iSeq, q_selK, q_self, ↓q_iTwo, ↓q_iTwoS, q_two2s, q_two2, ↓q_ext, q_extK, ↓q_nLc2, q_count, q_inE, q_notInE, q_is_non, q_is_str, q_is_int, q_is_tup, q_is_lst, q_isnt_non, q_isnt_str, q_isnt_int, q_isnt_tup, q_isnt_lst, q_list_l, q_list_t, q_tuple_l, q_tuple_t, q_max2, q_min2, q_sum, q_ixF_s, q_ixF_l, q_ixF_t, q_ixF_b, q_inF_s, q_inF_l, q_inF_t, q_lenG_s, q_lenG_l, q_lenG_t, q_lenG_d, q_lenG_dt, ↓q_setD, ↓q_dput, q_dputK, q_keyI, q_keyS, q_seeT, q_toDv, q_toDl, q_toDk, q_toDt, q_toDs0, q_toDs1, q_toDsm, q_fls0, q_fls1, q_flv, q_fll, q_flk, q_flt, q_flsm, q_sloV, q_sloK, q_sloT, q_sloL, q_sloLl, ↓q_oV, ↓q_oL, ↓q_oC, ↓q_oaN, ↓q_oaC, ↓q_oLst, q_oLstK, ↓q_setO, ↓q_parO, q_parOK, ↓q_parO3, q_parO3K, ↓q_appAt, q_appAtK, q_appAtK2, q_flatS, q_flatI, q_flatS2, q_mapv0, q_sloL0, bnd_ret, bnd_assoc, bnd_assoc', bnd_r, cnd_t, cnd_f, cnd_bnd, fail_bnd, bind_bnd, str01, List.cons.injEq, and_true, decide_true, decide_false, cut_toN, cut_fromN, cut_from1N, cut_to1N, cut_to1, cut_to2, cut_to3, cut_from1, cut_toM1, cut_fromM1, DL.startD, List.map_cons, List.map_nil, List.length_cons, List.length_nil, Nat.reduceAdd, Nat.reduceSub, List.replicate, List.cons_append, List.nil_append, view_eq, viewAt_cons, viewAt_nil, List.contains_cons, List.contains_nil, Nat.reduceBEq, Bool.or_true, Bool.or_false, Bool.true_or, Bool.false_or, if_true, Bool.false_eq_true, if_false, Option.map_some, Option.map_none, see_val, see_own, rd_0, rd_1, rd_2, rd_3, rd_4, rd_5, rd_6, rd_7, rd_8, rd_9, rd_10, rd_11, rd_12, rd_13, rd_14, rd_15, rd_16, rd_17, rd_18, rd_19, rd_20, rd_21, rd_22, rd_23, rd_24, rd_25, rd_26, rd_27, rd_28, rd_29, rd_30, rd_31, rd_32, rd_33, rd_34, rd_35, rd_36, rd_37, rd_38, rd_39, rd_40, rd_41, rd_42, rd_43, rd_44, rd_45, Int.reduceToNat, flat_int, flat_str, flat_bl, flat_non, flat_bag, flat_lst, flat_tup, flat_obj, List.all_cons, List.all_nil, Bool.and_true, Bool.true_and, Bool.and_false, Bool.false_and, keepIf_t, keepIf_f, frz_eq, frzAt_cons, frzAt_nil, List.set_cons_succ, List.set_cons_zero, subD_int, addD_int, negD_int, asI_int, asB_bl, truD_bl, lenF_lst, lenF_tup, intF_int, intF_bl, absF_int, ltD_int, leD_int, gtD_int, geD_int, eqD_int, eqD_str, neD_int, neD_str, inD_str, notInD_str, slD_lst, slD_scr, revD_lst, itemsD_lst, itemsD_tup, itemsD_str, Bool.not_true, Bool.not_false, ixD_l, ixD_t, ofSome, atI_0, atI_1, atI_2, atI_3, atI_4, atI_app, slotD_obj, propD_obj, propN_obj, isC_obj, get0, get1, get2, get3, getS, bName_eq, bTup_eq, bCons_eq, bNil_eq, setAll2_cons, setAll2_nil, setAllD_cons, setAllD_nil, wipeD_cons, wipeD_nil, isi_str_str, isi_int_int, isi_bool_int, List.getElem?_cons_zero, List.getElem?_cons_succ, lenF_str, modD_int, divD_int, addD_str, addD_lst, slD_str, revD_str, ixD_str, ixD_str1, ixD_strmod, rng1_int, rng2_int, mulD_intl, mulD_intr, intF_dig])
local macro_rules | `(tactic| walk_at "evl") => `(tactic| try simp -implicitDefEqProofs -dsimp (disch := walk_at "dis") only [↓q_seq, ↓q_seqK_nx, ↓q_seqK_rt, ↓q_seqK_rn, ↓q_seqK_bk, ↓q_seqK_ct, ↓q_runD, ↓q_runN, q_runK_rt, q_runK_rn, q_runK_nx, q_runKN_rn, ↓q_set, ↓q_setN, ↓q_ret, ↓q_retN, ↓q_drop, ↓q_if, ↓q_unp, q_unpK, ↓q_par, q_parK, ↓q_app, q_appK, ↓q_aug, q_augK, q_addF_int, q_addF_str, q_guard, ↓q_for, ↓q_forR, q_loopK_nx, q_loopK_ct, q_loopK_bk, q_loopK_rt, q_loopK_rn, ↓q_sNil, ↓q_e2, ↓q_t2, ↓q_e1, ↓q_cst, ↓q_aN, ↓q_aC, ↓q_call, ↓q_callN, ↓q_eN, ↓q_nLst, q_lstK, ↓q_eTup, q_tupK, ↓q_tVal, ↓q_tNot, ↓q_tAnd, ↓q_tOr, ↓q_eAnd, ↓q_eOr, ↓q_eNot, ↓q_eIf, ↓q_iAny, ↓q_iRg1, ↓q_iRg2, ↓q_iEnum, ↓q_nLc, ↓q_cT, ↓q_oN, ↓q_oS, ↓q_eSl, ↓q_eChain, ↓q_tBl, ↓q_eMake, ↓q_eMeth, ↓q_nMeth, ↓q_n1M, ↓q_iSeq, q_selK, q_self, ↓q_iTwo, ↓q_iTwoS, q_two2s, q_two2, ↓q_ext, q_extK, ↓q_nLc2, q_count, q_inE, q_notInE, q_is_non, q_is_str, q_is_int, q_is_tup, q_is_lst, q_isnt_non, q_isnt_str, q_isnt_int, q_isnt_tup, q_isnt_lst, q_list_l, q_list_t, q_tuple_l, q_tuple_t, q_max2, q_min2, q_sum, q_ixF_s, q_ixF_l, q_ixF_t, q_ixF_b, q_inF_s, q_inF_l, q_inF_t, q_lenG_s, q_lenG_l, q_lenG_t, q_lenG_d, q_lenG_dt, ↓q_setD, ↓q_dput, q_dputK, q_keyI, q_keyS, q_seeT, q_toDv, q_toDl, q_toDk, q_toDt, q_toDs0, q_toDs1, q_toDsm, q_fls0, q_fls1, q_flv, q_fll, q_flk, q_flt, q_flsm, q_sloV, q_sloK, q_sloT, q_sloL, q_sloLl, ↓q_oV, ↓q_oL, ↓q_oC, ↓q_oaN, ↓q_oaC, ↓q_oLst, q_oLstK, ↓q_setO, ↓q_parO, q_parOK, ↓q_parO3, q_parO3K, ↓q_appAt, q_appAtK, q_appAtK2, q_flatS, q_flatI, q_flatS2, q_mapv0, q_sloL0, bnd_ret, bnd_assoc, bnd_assoc', bnd_r, cnd_t, cnd_f, cnd_bnd, fail_bnd, bind_bnd, str01, List.cons.injEq, and_true, decide_true, decide_false, cut_toN, cut_fromN, cut_from1N, cut_to1N, cut_to1, cut_to2, cut_to3, cut_from1, cut_toM1, cut_fromM1, DL.startD, List.map_cons, List.map_nil, List.length_cons, List.length_nil, Nat.reduceAdd, Nat.reduceSub, List.replicate, List.cons_append, List.nil_append, view_eq, viewAt_cons, viewAt_nil, List.contains_cons, List.contains_nil, Nat.reduceBEq, Bool.or_true, Bool.or_false, Bool.true_or, Bool.false_or, if_true, Bool.false_eq_true, if_false, Option.map_some, Option.map_none, see_val, see_own, rd_0, rd_1, rd_2, rd_3, rd_4, rd_5, rd_6, rd_7, rd_8, rd_9, rd_10, rd_11, rd_12, rd_13, rd_14, rd_15, rd_16, rd_17, rd_18, rd_19, rd_20, rd_21, rd_22, rd_23, rd_24, rd_25, rd_26, rd_27, rd_28, rd_29, rd_30, rd_31, rd_32, rd_33, rd_34, rd_35, rd_36, rd_37, rd_38, rd_39, rd_40, rd_41, rd_42, rd_43, rd_44, rd_45, Int.reduceToNat, flat_int, flat_str, flat_bl, flat_non, flat_bag, flat_lst, flat_tup, flat_obj, List.all_cons, List.all_nil, Bool.and_true, Bool.true_and, Bool.and_false, Bool.false_and, keepIf_t, keepIf_f, frz_eq, frzAt_cons, frzAt_nil, List.set_cons_succ, List.set_cons_zero, subD_int, addD_int, negD_int, asI_int, asB_bl, truD_bl, lenF_lst, lenF_tup, intF_int, intF_bl, absF_int, ltD_int, leD_int, gtD_int, geD_int, eqD_int, eqD_str, neD_int, neD_str, inD_str, notInD_str, slD_lst, slD_scr, revD_lst, itemsD_lst, itemsD_tup, itemsD_str, Bool.not_true, Bool.not_false, ixD_l, ixD_t, ofSome, atI_0, atI_1, atI_2, atI_3, atI_4, atI_app, slotD_obj, propD_obj, propN_obj, isC_obj, get0, get1, get2, get3, getS, bName_eq, bTup_eq, bCons_eq, bNil_eq, setAll2_cons, setAll2_nil, setAllD_cons, setAllD_nil, wipeD_cons, wipeD_nil, isi_str_str, isi_int_int, isi_bool_int, List.getElem?_cons_zero, List.getElem?_cons_succ, lenF_str, modD_int, divD_int, addD_str, addD_lst, slD_str, revD_str, ixD_str, ixD_str1, ixD_strmod, rng1_int, rng2_int, mulD_intl, mulD_intr, intF_dig, q_loop0, q_loopN, q_comp0, q_compT])
local macro_rules | `(tactic| walk_at "evc") => `(tactic| try simp -implicitDefEqProofs -dsimp (disch := walk_at "dis") only [↓q_seq, ↓q_seqK_nx, ↓q_seqK_rt, ↓q_seqK_rn, ↓q_seqK_bk, ↓q_seqK_ct, ↓q_runD, ↓q_runN, q_runK_rt, q_runK_rn, q_runK_nx, q_runKN_rn, ↓q_set, ↓q_setN, ↓q_ret, ↓q_retN, ↓q_drop, ↓q_if, ↓q_unp, q_unpK, ↓q_par, q_parK, ↓q_app, q_appK, ↓q_aug, q_augK, q_addF_int, q_addF_str, q_guard, ↓q_for, ↓q_forR, q_loopK_nx, q_loopK_ct, q_loopK_bk, q_loopK_rt, q_loopK_rn, ↓q_sNil, ↓q_e2, ↓q_t2, ↓q_e1, ↓q_cst, ↓q_aN, ↓q_aC, ↓q_call, ↓q_callN, ↓q_eN, ↓q_nLst, q_lstK, ↓q_eTup, q_tupK, ↓q_tVal, ↓q_tNot, ↓q_tAnd, ↓q_tOr, ↓q_eAnd, ↓q_eOr, ↓q_eNot, ↓q_eIf, ↓q_iAny, ↓q_iRg1, ↓q_iRg2, ↓q_iEnum, ↓q_nLc, ↓q_cT, ↓q_oN, ↓q_oS, ↓q_eSl, ↓q_eChain, ↓q_tBl, ↓q_eMake, ↓q_eMeth, ↓q_nMeth, ↓q_n1M, ↓q_iSeq, q_selK, q_self, ↓q_iTwo, ↓q_iTwoS, q_two2s, q_two2, ↓q_ext, q_extK, ↓q_nLc2, q_count, q_inE, q_notInE, q_is_non, q_is_str, q_is_int, q_is_tup, q_is_lst, q_isnt_non, q_isnt_str, q_isnt_int, q_isnt_tup, q_isnt_lst, q_list_l, q_list_t, q_tuple_l, q_tuple_t, q_max2, q_min2, q_sum, q_ixF_s, q_ixF_l, q_ixF_t, q_ixF_b, q_inF_s, q_inF_l, q_inF_t, q_lenG_s, q_lenG_l, q_lenG_t, q_lenG_d, q_lenG_dt, ↓q_setD, ↓q_dput, q_dputK, q_keyI, q_keyS, q_seeT, q_toDv, q_toDl, q_toDk, q_toDt, q_toDs0, q_toDs1, q_toDsm, q_fls0, q_fls1, q_flv, q_fll, q_flk, q_flt, q_flsm, q_sloV, q_sloK, q_sloT, q_sloL, q_sloLl, ↓q_oV, ↓q_oL, ↓q_oC, ↓q_oaN, ↓q_oaC, ↓q_oLst, q_oLstK, ↓q_setO, ↓q_parO, q_parOK, ↓q_parO3, q_parO3K, ↓q_appAt, q_appAtK, q_appAtK2, q_flatS, q_flatI, q_flatS2, q_mapv0, q_sloL0, bnd_ret, bnd_assoc, bnd_assoc', bnd_r, cnd_t, cnd_f, cnd_bnd, fail_bnd, bind_bnd, str01, List.cons.injEq, and_true, decide_true, decide_false, cut_toN, cut_fromN, cut_from1N, cut_to1N, cut_to1, cut_to2, cut_to3, cut_from1, cut_toM1, cut_fromM1, DL.startD, List.map_cons, List.map_nil, List.length_cons, List.length_nil, Nat.reduceAdd, Nat.reduceSub, List.replicate, List.cons_append, List.nil_append, view_eq, viewAt_cons, viewAt_nil, List.contains_cons, List.contains_nil, Nat.reduceBEq, Bool.or_true, Bool.or_false, Bool.true_or, Bool.false_or, if_true, Bool.false_eq_true, if_false, Option.map_some, Option.map_none, see_val, see_own, rd_0, rd_1, rd_2, rd_3, rd_4, rd_5, rd_6, rd_7, rd_8, rd_9, rd_10, rd_11, rd_12, rd_13, rd_14, rd_15, rd_16, rd_17, rd_18, rd_19, rd_20, rd_21, rd_22, rd_23, rd_24, rd_25, rd_26, rd_27, rd_28, rd_29, rd_30, rd_31, rd_32, rd_33, rd_34, rd_35, rd_36, rd_37, rd_38, rd_39, rd_40, rd_41, rd_42, rd_43, rd_44, rd_45, Int.reduceToNat, flat_int, flat_str, flat_bl, flat_non, flat_bag, flat_lst, flat_tup, flat_obj, List.all_cons, List.all_nil, Bool.and_true, Bool.true_and, Bool.and_false, Bool.false_and, keepIf_t, keepIf_f, frz_eq, frzAt_cons, frzAt_nil, List.set_cons_succ, List.set_cons_zero, subD_int, addD_int, negD_int, asI_int, asB_bl, truD_bl, lenF_lst, lenF_tup, intF_int, intF_bl, absF_int, ltD_int, leD_int, gtD_int, geD_int, eqD_int, eqD_str, neD_int, neD_str, inD_str, notInD_str, slD_lst, slD_scr, revD_lst, itemsD_lst, itemsD_tup, itemsD_str, Bool.not_true, Bool.not_false, ixD_l, ixD_t, ofSome, atI_0, atI_1, atI_2, atI_3, atI_4, atI_app, slotD_obj, propD_obj, propN_obj, isC_obj, get0, get1, get2, get3, getS, bName_eq, bTup_eq, bCons_eq, bNil_eq, setAll2_cons, setAll2_nil, setAllD_cons, setAllD_nil, wipeD_cons, wipeD_nil, isi_str_str, isi_int_int, isi_bool_int, List.getElem?_cons_zero, List.getElem?_cons_succ, lenF_str, modD_int, divD_int, addD_str, addD_lst, slD_str, revD_str, ixD_str, ixD_str1, ixD_strmod, rng1_int, rng2_int, mulD_intl, mulD_intr, intF_dig, q_comp0, q_compT])
local macro_rules | `(tactic| walk_at "env") => `(tactic| try simp -implicitDefEqProofs only [List.all_cons, List.all_nil, Bool.and_true, Bool.true_and, setAll2_cons, setAll2_nil, bName_eq, env0, List.replicate, flat_int, flat_str, flat_bl, flat_non, flat_bag, flat_lst, flat_tup, flat_obj, keepIf_t, keepIf_f, frz_eq, frzAt_cons, frzAt_nil, List.contains_cons, List.contains_nil, Nat.reduceBEq, Nat.reduceAdd, Bool.or_true, Bool.or_false, Bool.true_or, if_true, Bool.false_eq_true, if_false, Option.map_some, Option.map_none, see_val, see_own, List.set_cons_succ, List.set_cons_zero])
/-! turning_fate -/
def F_turning_fate : Env2 → M Out :=
  (seqM (setNM 2 [0, 1] (nCall R_path_of (aC (rdEnv 0) (aC (rdEnv 1) aN))))
  (seqM (appM 2 [0, 2] (eMeth 0 R_Rule_ring_after (rdEnv 0) (aC (e2 ixF (rdEnv 2) (e1 negD (cst (.int 1)))) aN)))
  (seqM (forRM [2] (iRg1 (aC (eCall lenG (aC (rdEnv 2) aN)) aN)) (bName 3)
  (forRM [2, 3] (iRg2 (aC (e2 addD (rdEnv 3) (cst (.int 1))) (aC (eCall lenG (aC (rdEnv 2) aN)) aN))) (bName 4)
  (forRM [1] (iRg1 (aC (eCall lenG (aC (rdEnv 1) aN)) aN)) (bName 5)
  (ifM [2, 3, 4, 5] (t2 (eqD false) (eCall R_turned_by (aC (e2 ixF (rdEnv 2) (rdEnv 3)) (aC (rdEnv 5) aN))) (e2 ixF (rdEnv 2) (rdEnv 4)))
  (retM [3, 4, 5] (eTup (aC (rdEnv 3) (aC (e2 subD (rdEnv 4) (rdEnv 3)) (aC (rdEnv 5) aN)))))
  sNil))))
  (retM [] (eTup (aC (cst (.int 0)) (aC (cst (.int 0)) (aC (cst (.int 0)) aN))))))))
def R_turning_fate : List D → M D := runD 6 F_turning_fate
/-! turns_between -/
def F_turns_between : Env2 → M Out :=
  (retNM [0, 1, 2] (nLc [2] (iRg1 (aC (eCall lenG (aC (rdEnv 0) aN)) aN)) (bName 2) (t2 (eqD false) (eCall R_turned_by (aC (rdEnv 0) (aC (rdEnv 2) aN))) (rdEnv 1)) (rdEnv 2)))
def R_turns_between : List D → M (List D) := runN 3 F_turns_between
/-! _law_long_2 -/
def F__law_long_2 : Env2 → M Out :=
  (seqM (ifM [0] (t2 (eqD false) (eCall R__law_take (aC (rdEnv 0) (aC (cst (.int 2)) aN))) (cst (.int 0)))
  (retM [0] (eCall R__law_take (aC (rdEnv 0) (aC (cst (.int 30)) aN))))
  sNil)
  (retM [0] (e2 addD (eCall intF (aC (e2 addD (cst (.str [49])) (e2 mulD (cst (.str [48])) (eCall R__law_take (aC (rdEnv 0) (aC (cst (.int 39)) aN))))) aN)) (eCall R__law_take (aC (rdEnv 0) (aC (cst (.int 50)) aN))))))
def R__law_long_2 : List D → M D := runD 1 F__law_long_2
/-! Rule_is_still -/
def F_Rule_is_still : Env2 → M Out :=
  (retM [0, 1, 2] (eAnd (e2 (eqD false) (e2 ixF (e1 (slotD 0 1) (rdEnv 0)) (cst (.int 0))) (cst (.str [48]))) (eCall allF (aC (eN (nLc [2] (iAny (rdEnv 1)) (bName 2) cT (e2 (eqD false) (rdEnv 2) (cst (.str [48]))))) aN))))
def R_Rule_is_still : List D → M D := runD 3 F_Rule_is_still
/-! still_from -/
def F_still_from : Env2 → M Out :=
  (seqM (forA [0, 1] (iEnumM (aC (eN (nCall R_path_of (aC (rdEnv 0) (aC (rdEnv 1) aN)))) aN)) (bTup 2 (bCons (bName 2) (bCons (bName 3) bNil)))
  (ifM [0, 3] (tVal (eMeth 0 R_Rule_is_still (rdEnv 0) (aC (rdEnv 3) aN)))
  (retM [2] (rdEnv 2))
  sNil))
  (retM [] (cst .non)))
def R_still_from : List D → M D := runD 4 F_still_from
/-! mirror_of -/
def F_mirror_of : Env2 → M Out :=
  (retM [0] (e1 revD (rdEnv 0)))
def R_mirror_of : List D → M D := runD 1 F_mirror_of
/-! Rule_mirrored -/
def F_Rule_mirrored : Env2 → M Out :=
  (seqM (setM 1 [0] (e1 (slotD 0 1) (rdEnv 0)))
  (retM [0, 1] (eMake 0 ruleI (aC (e2 addD (e2 addD (e2 addD (e2 ixF (rdEnv 1) (cst (.int 0))) (e2 ixF (rdEnv 1) (cst (.int 2)))) (e2 ixF (rdEnv 1) (cst (.int 1)))) (e2 ixF (rdEnv 1) (cst (.int 3)))) (aC (e1 (slotD 0 0) (rdEnv 0)) aN)))))
def R_Rule_mirrored : List D → M D := runD 2 F_Rule_mirrored
/-! ### loops that search -/
theorem findSome_at {α : Type} {g : Nat → Option α} {d : α} {i : Nat} : ∀ {n : Nat}, i < n → g i = some d → (∀ j, j < i → g j = none) → (List.range n).findSome? g = some d
  | 0, h, _, _ => absurd h (Nat.not_lt_zero _)
  | n + 1, h, e, hn => by
    rw [List.range_succ, List.findSome?_append]
    by_cases hi : i < n
    · rw [findSome_at hi e hn]; rfl
    · have : i = n := by omega
      subst this
      have : (List.range i).findSome? g = none := by
        rw [List.findSome?_eq_none_iff]
        intro j hj
        exact hn j (List.mem_range.mp hj)
      rw [this]
      simp [e]
theorem findSome_pre {α : Type} {g : Nat → Option α} {c : Nat} : ∀ {m : Nat}, c ≤ m → (∀ k, k < m → g k ≠ none → k < c ∨ ∃ j, j < k ∧ g j ≠ none) → (List.range m).findSome? g = (List.range c).findSome? g := by
  intro m hc h
  cases e : (List.range c).findSome? g with
  | some d =>
    obtain ⟨k, rfl⟩ : ∃ k, m = c + k := ⟨m - c, by omega⟩
    rw [List.range_add, List.findSome?_append, e]
    rfl
  | none =>
    rw [List.findSome?_eq_none_iff] at e ⊢
    have : ∀ k, k < m → g k = none := by
      intro k
      induction k using Nat.strongRecOn with
      | ind k ih =>
        intro hk
        apply Classical.byContradiction
        intro hg
        rcases h k hk hg with hl | ⟨j, hj, hg2⟩
        · exact hg (e k (List.mem_range.mpr hl))
        · exact hg2 (ih j hj (by omega))
    exact fun k hk => this k (List.mem_range.mp hk)
def Hit (I : Env2 → Prop) (g : Option D) (o : Out) : Prop := match g with
  | some d => o = .rt d
  | none => ∃ ρ, o = .nx ρ ∧ I ρ
theorem ev_mono {α : Type} {m : M α} {P Q : α → Prop} (h : Ev m P) (k : ∀ a, P a → Q a) : Ev m Q := by
  obtain ⟨a, e, p⟩ := h
  exact ⟨a, e, k a p⟩
theorem ev_searchI {bs : D → Option (List (Nat × D))} {body : Env2 → M Out} {inj : Nat → D} {g : Nat → Option D} (I : Nat → Env2 → Prop) {n : Nat} {ρ : Env2} (h0 : I 0 ρ) (h : ∀ k, k < n → ∀ ρ, I k ρ → ∃ l, bs (inj k) = some l ∧ Ev (body (setAll2 ρ l)) (Hit (I (k + 1)) (g k))) : Ev (loopM bs body ((List.range n).map inj) ρ) (Hit (I n) ((List.range n).findSome? g)) := by
  refine ev_loopW (fun i ρ => I i ρ ∧ ∀ j, j < i → g j = none) (P := Hit (I n) ((List.range n).findSome? g)) ⟨h0, fun j hj => absurd hj (Nat.not_lt_zero _)⟩ ?_ ?_
  · rintro i d ρ hd ⟨hi, hn⟩
    obtain ⟨hin, rfl⟩ := get_rmap hd
    obtain ⟨l, e1, e2⟩ := h i hin ρ hi
    refine ⟨l, e1, ?_⟩
    obtain ⟨o, e3, e4⟩ := e2
    rw [e3]
    refine Ev.ret ?_
    cases eg : g i with
    | some d =>
      rw [eg] at e4
      have e4 : o = .rt d := e4
      subst e4
      show Hit (I n) _ (.rt d)
      rw [findSome_at hin eg hn]
      rfl
    | none =>
      rw [eg] at e4
      obtain ⟨ρ', rfl, hi'⟩ := e4
      refine ⟨ρ', rfl, hi', fun j hj => ?_⟩
      by_cases e : j = i
      · rw [e]; exact eg
      · exact hn j (by omega)
  · rintro ρ' ⟨hi, hn⟩
    simp only [List.length_map, List.length_range] at hn hi
    have : (List.range n).findSome? g = none := by
      rw [List.findSome?_eq_none_iff]
      exact fun j hj => hn j (List.mem_range.mp hj)
    rw [this]
    exact ⟨ρ', rfl, hi⟩
theorem ev_search {bs : D → Option (List (Nat × D))} {body : Env2 → M Out} {inj : Nat → D} {g : Nat → Option D} (I : Env2 → Prop) {n : Nat} {ρ : Env2} (h0 : I ρ) (h : ∀ k, k < n → ∀ ρ, I ρ → ∃ l, bs (inj k) = some l ∧ Ev (body (setAll2 ρ l)) (Hit I (g k))) : Ev (loopM bs body ((List.range n).map inj) ρ) (Hit I ((List.range n).findSome? g)) := ev_searchI (fun _ => I) h0 h
theorem find_filter {α : Type} {p : Nat → Prop} [DecidablePred p] {d : Nat → α} : ∀ l : List Nat, (l.findSome? fun k => if p k then some (d k) else none) = (l.filter fun k => decide (p k)).head?.map d
  | [] => rfl
  | k :: l => by
    rw [List.findSome?_cons]
    by_cases h : p k
    · rw [if_pos h, List.filter_cons_of_pos (by simpa using h)]; rfl
    · rw [if_neg h, List.filter_cons_of_neg (by simpa using h)]; exact find_filter l
theorem Hit.mono {I J : Env2 → Prop} {g : Option D} {o : Out} (h : Hit I g o) (hij : ∀ ρ, I ρ → J ρ) : Hit J g o := by
  cases g with
  | some d => exact h
  | none => obtain ⟨ρ, e, hi⟩ := h; exact ⟨ρ, e, hij ρ hi⟩
/-! ### the least turning -/
def turnK (f : List Nat → List Nat) (x : List Nat) (i n : Nat) : Option D :=
  (List.range x.length).findSome? fun (k : Nat) => if turnL (itN f i x) (k : Int) = itN f (i + n) x then some (.tup [.int (i : Int), .int (n : Int), .int (k : Int)]) else none
def turnA (f : List Nat → List Nat) (x : List Nat) (m : Nat) : Option D := (List.range (m + 1)).findSome? fun i => (List.range (m - i)).findSome? fun n => turnK f x i (n + 1)
def turnB (f : List Nat → List Nat) (x : List Nat) (m : Nat) : Option D := (List.range m).findSome? fun i => (List.range m).findSome? fun n => turnK f x i (n + 1)
theorem turnK_some {f : List Nat → List Nat} {x : List Nat} {i n : Nat} : turnK f x i n ≠ none ↔ ∃ k : Nat, k < x.length ∧ turnL (itN f i x) (k : Int) = itN f (i + n) x := by
  unfold turnK
  rw [Ne, List.findSome?_eq_none_iff]
  constructor
  · intro h
    apply Classical.byContradiction
    intro hc
    apply h
    intro k hk
    rw [if_neg fun z => hc ⟨k, List.mem_range.mp hk, z⟩]
  · rintro ⟨k, hk, e⟩ h
    have := h k (List.mem_range.mpr hk)
    rw [if_pos e] at this
    cases this
theorem turn_same {f : List Nat → List Nat} {x : List Nat} {m : Nat} (h0 : 0 < x.length) (hp : IsPath f x m) : ∃ i n k : Nat, turnA f x m = some (.tup [.int (i : Int), .int (n : Int), .int (k : Int)]) ∧ turnB f x m = turnA f x m ∧ i ≤ m ∧ n ≤ m ∧ k < x.length := by
  have hlt := hp.early_lt
  have hee := hp.early_eq
  generalize early f x m = e at *
  let A := fun i => (List.range (m - i)).findSome? fun n => turnK f x i (n + 1)
  let B := fun i => (List.range m).findSome? fun n => turnK f x i (n + 1)
  have hAe : A e ≠ none := by
    intro h
    have := List.findSome?_eq_none_iff.mp h (m - e - 1) (List.mem_range.mpr (by omega))
    refine turnK_some.mpr ⟨0, h0, ?_⟩ this
    rw [show e + (m - e - 1 + 1) = m by omega, ← hee]
    exact turn_zero _
  have hBA : ∀ i, i ≤ e → B i = A i := by
    intro i hi
    refine findSome_pre (by omega) fun n hn hg => ?_
    by_cases hc : n < m - i
    · exact .inl hc
    · refine .inr ⟨n - (m - e), by omega, ?_⟩
      obtain ⟨k, hk, ek⟩ := turnK_some.mp hg
      refine turnK_some.mpr ⟨k, hk, ek.trans ?_⟩
      have := itN_per (f := f) (x := x) (e := e) (p := m - e) (by rw [show e + (m - e) = m by omega]; exact hee.symm) 1 (i + (n - (m - e) + 1) - e)
      rw [show e + (i + (n - (m - e) + 1) - e) + (m - e) * 1 = i + (n + 1) by omega, show e + (i + (n - (m - e) + 1) - e) = i + (n - (m - e) + 1) by omega] at this
      exact this
  have least : ∃ i0, i0 ≤ e ∧ A i0 ≠ none ∧ ∀ j, j < i0 → A j = none := by
    have : ∀ e, A e ≠ none → ∃ i0, i0 ≤ e ∧ A i0 ≠ none ∧ ∀ j, j < i0 → A j = none := by
      intro e
      induction e using Nat.strongRecOn with
      | ind e ih =>
        intro he
        by_cases hh : ∃ j, j < e ∧ A j ≠ none
        · obtain ⟨j, hj, hA⟩ := hh
          obtain ⟨i0, h1, h2, h3⟩ := ih j hj hA
          exact ⟨i0, by omega, h2, h3⟩
        · exact ⟨e, Nat.le_refl _, he, fun j hj => Classical.byContradiction fun hc => hh ⟨j, hj, hc⟩⟩
    exact this e hAe
  obtain ⟨i0, hi0, hA, hn⟩ := least
  cases ed : A i0 with
  | none => exact absurd ed hA
  | some d =>
    have eA : turnA f x m = some d := findSome_at (by omega) ed hn
    have eB : turnB f x m = some d := findSome_at (g := B) (i := i0) (by omega) (by rw [hBA i0 hi0]; exact ed) fun j hj => by rw [hBA j (by omega)]; exact hn j hj
    obtain ⟨n, hn1, en⟩ := List.exists_of_findSome?_eq_some ed
    obtain ⟨k, hk1, ek⟩ := List.exists_of_findSome?_eq_some en
    have hn1 := List.mem_range.mp hn1
    have hk1 := List.mem_range.mp hk1
    split at ek
    · cases ek
      exact ⟨i0, n + 1, k, eA, by rw [eA, eB], by omega, by omega, hk1⟩
    · cases ek
theorem path_get {f : List Nat → List Nat} {x : List Nat} {m k : Nat} (hk : k < m) : atI (strL (itL f x m)) (k : Int) = some (.str (itN f k x)) := atI_nat (by rw [List.getElem?_map, itL_get hk]; rfl)
theorem turning_fate_is {t : List Nat} {r : Nat} {x : List Nat} {m : Nat} (ht : BinT t) (hr : r ≤ 2) (h0 : 0 < x.length) (hx : Sg r x) (hz : x.length ≤ 100) (hb : (r + 2) ^ x.length ≤ 100000) (hp : IsPath (ringL t r) x m) : ∃ d, turnA (ringL t r) x m = some d ∧ R_turning_fate [rul t r, .str x] = M.ret d := by
  obtain ⟨k, hk, hkm, e⟩ := path_of_is ht hr h0 hx hz hb
  have := hk.uniq hp
  subst this
  obtain ⟨i, n, j, eA, _⟩ := turn_same h0 hp
  refine ⟨_, eA, ?_⟩
  have hpos := hp.pos
  have ll := itL_len (ringL t r) x k
  have ll2 := itL_len (ringL t r) x (k + 1)
  have key : Ev (R_turning_fate [rul t r, .str x]) fun d => turnA (ringL t r) x k = some d := by
    simp only [R_turning_fate, F_turning_fate]
    walk_at "ev"
    rw [e]
    walk_at "ev"
    rw [path_last hpos]
    walk_at "ev"
    rw [ring_after_is ht.1 hr (by rw [itN_ring_len]; omega) (by rw [itN_ring_len]; omega) (itN_ring_sg ht _ hx), ← itN_succ (ringL t r), show k - 1 + 1 = k by omega]
    walk_at "ev"
    rw [← strL_snoc, List.length_map, ll2, Int.toNat_natCast]
    have lg : ∀ j, j < k + 1 → atI (strL (itL (ringL t r) x (k + 1))) (j : Int) = some (.str (itN (ringL t r) j x)) := fun j hj => path_get hj
    have pl : (strL (itL (ringL t r) x (k + 1))).length = k + 1 := by rw [List.length_map, ll2]
    generalize strL (itL (ringL t r) x (k + 1)) = L at *
    refine Ev.bind (ev_search (g := fun i => (List.range (k - i)).findSome? fun n => turnK (ringL t r) x i (n + 1)) (fun ρ => ∃ s3 s4 s5, ρ = [some (.val (rul t r)), some (.val (.str x)), some (.own L), s3, s4, s5]) ⟨_, _, _, rfl⟩ ?_) ?_
    · rintro i hi ρ ⟨s3, s4, s5, rfl⟩
      refine ⟨[(3, D.int (0 + (i : Int)))], rfl, ?_⟩
      walk_at "ev"
      rw [show ((L.length : Int) - (0 + (i : Int) + 1)).toNat = k - i by omega]
      refine ev_mono (ev_search (g := fun n => turnK (ringL t r) x i (n + 1)) (fun ρ => ∃ s4 s5, ρ = [some (.val (rul t r)), some (.val (.str x)), some (.own L), some (.val (.int (0 + (i : Int)))), s4, s5]) ⟨_, _, rfl⟩ ?_) fun o ho => ho.mono ?_
      · rintro n hn ρ ⟨s4, s5, rfl⟩
        refine ⟨_, rfl, ?_⟩
        walk_at "ev"
        rw [Int.toNat_natCast]
        refine ev_mono (ev_search (g := fun (k : Nat) => if turnL (itN (ringL t r) i x) (k : Int) = itN (ringL t r) (i + (n + 1)) x then some (D.tup [.int (i : Int), .int ((n + 1 : Nat) : Int), .int (k : Int)]) else none) (fun ρ => ∃ s5, ρ = [some (.val (rul t r)), some (.val (.str x)), some (.own L), some (.val (.int (0 + (i : Int)))), some (.val (.int (0 + (i : Int) + 1 + (n : Int)))), s5]) ⟨_, rfl⟩ ?_) fun o ho => ho.mono ?_
        · rintro j hj ρ ⟨s5, rfl⟩
          refine ⟨[(5, D.int (0 + (j : Int)))], rfl, ?_⟩
          have e1 := lg i hi
          have e2 := lg (i + (n + 1)) (by omega)
          rw [show (i : Int) = 0 + (i : Int) by omega] at e1
          rw [show ((i + (n + 1) : Nat) : Int) = 0 + (i : Int) + 1 + (n : Int) by omega] at e2
          walk_at "ev"
          rw [e1]
          walk_at "ev"
          rw [turned_by_is _ (by rw [itN_ring_len]; exact h0) (by rw [itN_ring_len]; omega)]
          walk_at "ev"
          rw [e2]
          walk_at "ev"
          by_cases hc : turnL (itN (ringL t r) i x) (0 + (j : Int)) = itN (ringL t r) (i + (n + 1)) x
          · rw [cnd_dt hc]
            rw [Int.zero_add] at hc
            rw [if_pos hc]
            walk_at "ev"
            rw [show 0 + (i : Int) + 1 + (n : Int) - (0 + (i : Int)) = ((n + 1 : Nat) : Int) by omega, Int.zero_add, Int.zero_add]
            exact Ev.ret rfl
          · rw [cnd_df hc]
            rw [Int.zero_add] at hc
            rw [if_neg hc]
            walk_at "ev"
            exact Ev.ret ⟨_, rfl, _, rfl⟩
        · rintro ρ ⟨s5, rfl⟩
          exact ⟨_, _, rfl⟩
      · rintro ρ ⟨s4, s5, rfl⟩
        exact ⟨_, _, _, rfl⟩
    · intro o ho
      have ho : Hit _ (turnA (ringL t r) x k) o := ho
      rw [eA] at ho ⊢
      have ho : o = .rt _ := ho
      subst ho
      exact Ev.ret rfl
  obtain ⟨d, e1, e2⟩ := key
  rw [eA] at e2
  cases e2
  exact e1
def stB (t y : List Nat) : Bool := decide (t.getD 0 0 = 48) && y.all fun c => decide (c = 48)
theorem is_still_is {t : List Nat} {r : Nat} {y : List Nat} (ht : t.length = 4) (hz : y.length ≤ 100000) : R_Rule_is_still [rul t r, .str y] = M.ret (.bl (stB t y)) := by
  simp only [R_Rule_is_still, F_Rule_is_still]
  walk_at "ev"
  by_cases h4 : t.getD 0 0 = 48
  · rw [cnd_dt h4]
    walk_at "ev"
    rw [compM_mapI (l := fun c => [(2, D.str [c])]) (y := fun c => D.bl (decide (c = 48))) (fun c hc => ⟨rfl, rfl, by walk_at "ev"⟩)]
    walk_at "ev"
    rw [allF_map]
    walk_at "ev"
    simp only [stB, decide_eq_true h4, Bool.true_and]
  · rw [cnd_df h4]
    walk_at "ev"
    simp only [stB, decide_eq_false h4, Bool.false_and]
def firstS (t : List Nat) (f : List Nat → List Nat) (x : List Nat) (m : Nat) : D :=
  match (List.range m).find? fun k => stB t (itN f k x) with
  | some k => .int (k : Int)
  | none => .non
theorem find_at {m k : Nat} {p : Nat → Bool} (hk : k < m) (hp : p k = true) (h : ∀ j, j < k → p j = false) : (List.range m).find? p = some k := by
  rw [List.find?_range_eq_some]
  exact ⟨hp, by simpa using hk, fun j hj => by rw [h j hj]; rfl⟩
theorem still_from_is {t : List Nat} {r : Nat} {x : List Nat} {m : Nat} (ht : BinT t) (hr : r ≤ 2) (h0 : 0 < x.length) (hx : Sg r x) (hz : x.length ≤ 100) (hb : (r + 2) ^ x.length ≤ 100000) (hp : IsPath (ringL t r) x m) : R_still_from [rul t r, .str x] = M.ret (firstS t (ringL t r) x m) := by
  obtain ⟨k, hk, _, e⟩ := path_of_is ht hr h0 hx hz hb
  have := hk.uniq hp
  subst this
  have ll := itL_len (ringL t r) x k
  have key : Ev (R_still_from [rul t r, .str x]) fun d => d = firstS t (ringL t r) x k := by
    simp only [R_still_from, F_still_from]
    walk_at "ev"
    rw [e]
    walk_at "ev"
    rw [show enumD [D.lst (strL (itL (ringL t r) x k))] = M.ret (pairsD (strL (itL (ringL t r) x k))) from rfl]
    walk_at "ev"
    have pl : (pairsD (strL (itL (ringL t r) x k))).length = k := by rw [pairsD_len, List.length_map, ll]
    refine Ev.bind (ev_loopW (fun i ρ => (∀ j, j < i → stB t (itN (ringL t r) j x) = false) ∧ ∃ s2 s3, ρ = [some (.val (rul t r)), some (.val (.str x)), s2, s3])
      (P := fun o => o = .rt (firstS t (ringL t r) x k) ∨ (firstS t (ringL t r) x k = .non ∧ ∃ ρ, o = .nx ρ)) ⟨fun j hj => absurd hj (Nat.not_lt_zero _), _, _, rfl⟩ ?_ ?_) ?_
    · rintro i d ρ hd ⟨hn, s2, s3, rfl⟩
      have hi : i < k := by
        have := List.getElem?_eq_some_iff.mp hd
        obtain ⟨h, _⟩ := this
        rwa [pl] at h
      obtain ⟨y, hy, rfl⟩ := pairsD_get hd
      rw [List.getElem?_map, itL_get hi] at hy
      have hy := Option.some.inj hy
      subst hy
      refine ⟨_, rfl, ?_⟩
      walk_at "ev"
      rw [is_still_is ht.1 (by rw [itN_ring_len]; omega)]
      walk_at "ev"
      cases hs : stB t (itN (ringL t r) i x) with
      | true =>
        walk_at "ev"
        refine Ev.ret (.inl ?_)
        unfold firstS
        rw [find_at hi hs hn]
      | false =>
        walk_at "ev"
        refine Ev.ret ⟨_, rfl, fun j hj => ?_, _, _, rfl⟩
        by_cases e : j = i
        · rw [e]; exact hs
        · exact hn j (by omega)
    · rintro ρ ⟨hn, _⟩
      rw [pl] at hn
      refine .inr ⟨?_, _, rfl⟩
      unfold firstS
      rw [List.find?_eq_none.mpr]
      intro j hj
      rw [hn j (List.mem_range.mp hj)]
      decide
    · rintro o (rfl | ⟨hf, ρ, rfl⟩)
      · exact Ev.ret rfl
      · rw [hf]
        exact Ev.ret rfl
  obtain ⟨d, e, rfl⟩ := key
  exact e
theorem long2_tot {p : Addr} : Tot p (R__law_long_2 [.bag p]) fun d => ∃ n : Nat, d = .int (n : Int) := by
  simp only [R__law_long_2, F__law_long_2]
  walk_at "ev"
  refine (take_tot (by omega) (by omega)).bnd ?_
  rintro _ ⟨v, rfl, v0, v1⟩
  walk_at "ev"
  by_cases hv : v = 0
  · rw [cnd_dt hv]
    walk_at "ev"
    refine (take_tot (by omega) (by omega)).bnd ?_
    rintro _ ⟨v, rfl, v0, v1⟩
    walk_at "ev"
    exact Tot.ret ⟨v.toNat, by rw [Int.toNat_of_nonneg v0]⟩
  · rw [cnd_df hv]
    walk_at "ev"
    refine (take_tot (by omega) (by omega)).bnd ?_
    rintro _ ⟨v, rfl, v0, v1⟩
    obtain ⟨k, rfl⟩ : ∃ k : Nat, v = (k : Int) := ⟨v.toNat, by rw [Int.toNat_of_nonneg v0]⟩
    walk_at "ev"
    rw [mul0 (by omega)]
    walk_at "ev"
    have ei : intF [D.str (49 :: List.replicate k 48)] = M.ret (.int ((10 : Int) ^ k)) := by
      simp only [intF, int_long k (by omega)]
      rw [M.guard_of (decide_eq_true (by rw [List.length_cons, List.length_replicate]; omega))]
    rw [ei]
    walk_at "ev"
    refine (take_tot (by omega) (by omega)).bnd ?_
    rintro _ ⟨v, rfl, v0, v1⟩
    walk_at "ev"
    refine Tot.ret ⟨10 ^ k + v.toNat, ?_⟩
    rw [Int.natCast_add, Int.toNat_of_nonneg v0, Int.natCast_pow]
    rfl
theorem mirror_of_is (x : List Nat) (hz : x.length ≤ 1000) : R_mirror_of [.str x] = M.ret (.str x.reverse) := by
  simp only [R_mirror_of, F_mirror_of]
  walk_at "ev"
theorem mirrored_is {t : List Nat} {r : Nat} (ht : BinT t) (hr : r ≤ 2) : R_Rule_mirrored [rul t r] = M.ret (rul (mirT t) r) := by
  have hl := ht.1
  simp only [R_Rule_mirrored, F_Rule_mirrored]
  walk_at "ev"
  rw [show [t.getD 0 0, t.getD 2 0, t.getD 1 0, t.getD 3 0] = mirT t from rfl, make_rule (mirT_bin ht) hr]
  walk_at "ev"
def betwD (x y : List Nat) : List D := ((List.range x.length).filter fun (k : Nat) => decide (turnL x (k : Int) = y)).map fun (k : Nat) => D.int (k : Int)
theorem turns_between_is {x y : List Nat} (h0 : 0 < x.length) (hz : x.length ≤ 1000) : R_turns_between [.str x, .str y] = M.ret (betwD x y) := by
  have hl : (betwD x y).length ≤ 1000 := by
    unfold betwD
    rw [List.length_map]
    exact Nat.le_trans (List.length_filter_le _ _) (by rw [List.length_range]; exact hz)
  simp only [R_turns_between, F_turns_between]
  walk_at "ev"
  rw [Int.toNat_natCast]
  rw [compM_filterI (l := fun (k : Nat) => [(2, D.int (0 + (k : Int)))]) (k := fun (k : Nat) => decide (turnL x (k : Int) = y)) (y := fun (k : Nat) => D.int (k : Int)) (fun k hk => ⟨rfl, ?_, ?_⟩)]
  · rw [show (((List.range x.length).filter fun (k : Nat) => decide (turnL x (k : Int) = y)).map fun (k : Nat) => D.int (k : Int)) = betwD x y from rfl]
    walk_at "ev"
  · walk_at "ev"
    rw [turned_by_is _ h0 hz]
    walk_at "ev"
    rw [Int.zero_add]
  · walk_at "ev"
    rw [Int.zero_add]
end LW
set_option Elab.async false
set_option maxRecDepth 100000
set_option autoImplicit false
set_option linter.unusedVariables false
set_option maxHeartbeats 4000000
namespace DL
open PySem L2
section
variable {X : Cx} {a b c : Expr} {pos : Pos}
/-! ### a new list if .. else a new list -/
def nIf (t : Env → M Bool) (f g : Env → M (List D)) : Env → M (List D) := fun ρ => M.bind (t ρ) fun k => if k = true then f ρ else g ρ
theorem dn_if {t : Env → M Bool} {f g : Env → M (List D)} (hc : DT X c t) (ha : DN X a f) (hb : DN X b g) : DN X (.IfExp c a b pos) (nIf t f g) := by
  refine PEimp (pe_ifExp hc ha hb) ?_
  rintro σ H Q ⟨ρ, G, b, d, b', rs, fz, ob, e, q⟩
  obtain ⟨k, b1, e1, e2⟩ := M.bind_some e
  refine ⟨ρ, G, b, k, b1, rs, fz, ob, e1, fun G1 H1 n1 => ?_⟩
  cases k with
  | true => exact iteT ⟨ρ, G1, b1, d, b', rs.mono n1.gg, n1.fz, n1.bag, e2, fun p vs G2 H2 n2 hp gp hh r => q _ _ _ _ (n1.trans n2) (n1.free hp) gp hh r⟩
  | false => exact iteF ⟨ρ, G1, b1, d, b', rs.mono n1.gg, n1.fz, n1.bag, e2, fun p vs G2 H2 n2 hp gp hh r => q _ _ _ _ (n1.trans n2) (n1.free hp) gp hh r⟩
end
section
variable {ρ : Env}
theorem q_nIf (t : Env → M Bool) (f g : Env → M (List D)) : nIf t f g ρ = bnd (t ρ) fun k => cnd k (f ρ) (g ρ) := rfl
end
end DL
set_option Elab.async false
set_option maxRecDepth 100000
set_option autoImplicit false
set_option linter.unusedVariables false
set_option maxHeartbeats 4000000
namespace DL
open PySem L2 PySem.Spec PyProof.Rows
/-! ### == by an own __eq__ -/
def eqO (c : Nat) (R : List D → M D) (x y : D) : M D := M.guard (isC c x) (R [x, y])
section
variable {X : Cx} {a b e : Expr} {pos p p2 : Pos} {c : Nat} {C g : Addr} {k : Nat} {fd : FuncData} {ps : List Str} {f h : Env → M D}
theorem snd_own {K : PySem.W.Frag} {mg : Str → Option Value} {R : List D → M D} (T : ClsAt K mg c C) : SndR K (SlX.rOwn K C (fun vs H Q E => spD K 2 R (vs ++ []) H Q E) E0) (fun x y => M.guard (isC c x && isC c y) (R [x, y])) := by
  intro G H b x y dx dy d b' Q rx ry fz ob e q
  obtain ⟨hc, e3⟩ := M.guard_some e
  rw [Bool.and_eq_true] at hc
  obtain ⟨a, ax, vs, fs, rfl, rfl, hs, rl⟩ := isC_rp T hc.1 rx
  obtain ⟨a2, ax2, vs2, fs2, rfl, rfl, hs2, rl2⟩ := isC_rp T hc.2 ry
  exact ⟨a, ax, _, a2, C, ax2, _, rfl, rfl, slt_mono fz hs, slt_mono fz hs2, by simp [PySem.W.notFirst], G, b, [.obj c fs, .obj c fs2], d, b', .cons rx (.cons ry .nil), rfl, fz, ob, e3, q⟩
def eqC (c : Nat) (R : List D → M D) (x y : D) : M D := M.guard (isC c x && isC c y) (R [x, y])
theorem d_eqO {R : List D → M D} (T : ClsAt X.K X.mg c C) (m : Meth X.K C "__eq__" g) (F : FnOk X.prog X.w X.K X.mg X.base CX0 k g fd ps (spD X.K 2 R)) (bd : Binds X.K fd ps []) (hr : Room k X.A) (ha : DE X a f) (hb : DE X b h) :
    DE X (.Compare a [.Eq] [b] pos) (e2 (eqC c R) f h) := d_cmp (SlX.op_own (op := .Eq) (E := E0) (fun _ _ => rfl) m.at_ m.fn (raw0 F bd) hr pass0) (snd_own T) ha hb (nomark _)
theorem t_eqO {R : List D → M D} (T : ClsAt X.K X.mg c C) (m : Meth X.K C "__eq__" g) (F : FnOk X.prog X.w X.K X.mg X.base CX0 k g fd ps (spD X.K 2 R)) (bd : Binds X.K fd ps []) (hr : Room k X.A) (ha : DE X a f) (hb : DE X b h) :
    DT X (.Compare a [.Eq] [b] pos) (t2 (eqC c R) f h) := t_cmp (SlX.op_own (op := .Eq) (E := E0) (fun _ _ => rfl) m.at_ m.fn (raw0 F bd) hr pass0) (snd_own T) ha hb (nomark _)
/-! ### isinstance(x, C), C a class of the package -/
structure IsiAt (K : PySem.W.Frag) (C : Addr) : Prop where
  si : SlX.SIsi K C
  ic : PySem.W.isClsIn K C = true
  ty : PySem.W.typeIn K (.ref C) = some (.type "type")
  k0 : PySem.W.subIn K (.type "NoneType") (.ref C) = some false
  k1 : PySem.W.subIn K (.type "bool") (.ref C) = some false
  k2 : PySem.W.subIn K (.type "int") (.ref C) = some false
  k3 : PySem.W.subIn K (.type "str") (.ref C) = some false
  k4 : PySem.W.subIn K (.type "list") (.ref C) = some false
  k5 : PySem.W.subIn K (.type "tuple") (.ref C) = some false
  k6 : PySem.W.subIn K (.type "dict") (.ref C) = some false
theorem IsiAt.one {K : PySem.W.Frag} {C : Addr} (h : IsiAt K C) {t : String} (hs : PySem.W.subIn K (.type t) (.ref C) = some false) : PySem.W.kitOne K (.type t) (.ref C) = some false := by
  unfold PySem.W.kitOne
  rw [if_neg (by intro z; cases z)]
  have ic : (PySem.W.clsIn K C).isSome = true := h.ic
  show (if ((PySem.W.clsIn K C).isSome && PySem.W.typeIn K (.ref C) == some (.type "type")) = true then _ else _) = _
  rw [if_pos (by rw [ic, h.ty]; rfl)]
  exact hs
theorem IsiAt.no {K : PySem.W.Frag} {C : Addr} (h : IsiAt K C) : ∀ t ∈ tys, PySem.W.kitOne K (.type t) (.ref C) = some false := by
  intro t ht
  simp only [tys, List.mem_cons, List.not_mem_nil, or_false] at ht
  rcases ht with rfl | rfl | rfl | rfl | rfl | rfl | rfl
  · exact h.one h.k0
  · exact h.one h.k1
  · exact h.one h.k2
  · exact h.one h.k3
  · exact h.one h.k4
  · exact h.one h.k5
  · exact h.one h.k6
def isiO (c : Nat) (d : D) : M D := if isC c d = true then M.ret (.bl true) else match tyD d with
  | some _ => M.ret (.bl false)
  | none => M.fail
theorem d_isiO {x : Str} (T : ClsAt X.K X.mg c C) (I : IsiAt X.K C) (hx : clsName c = x) (hg : Gl X "isinstance") (hm : X.mg "isinstance" = none) (hgt : Gl X x) (he : DE X e f) (hdt : (x == ("__debug__" : Str)) = false := by decide)
    (hs : starEach [e, .Name x p2] X.env = (false, eval e X.env) :: starEach [.Name x p2] X.env := by rfl) (hs2 : starEach [.Name x p2] X.env = (false, eval (.Name x p2) X.env) :: starEach [] X.env := by rfl)
    (hpl : (backTo pos (starEach [.Name x p2] X.env)).any (·.1) = false := by rfl) :
    DE X (.Call (.Name "isinstance" p) [e, .Name x p2] [] pos) (e1 (isiO c) f) := by
  have pt : PE X (.Name x p2) (tC (.ref C)) := pe_glob hgt (by rw [← hx]; exact T.gl) rfl hdt
  refine PEimp (pe_callB ((SlX.call_isiSl (.ref C)).or call_isi) hg hm (by decide +kernel) (pa_cons he (pa_cons pt pa_nil hs2) hs) (he := hs) (hpl := hpl)) ?_
  rintro σ H Q ⟨ρ, G, b, d, b', rs, fz, ob, e, q⟩
  obtain ⟨x, b1, e1, e2⟩ := M.bind_some e
  refine ⟨ρ, G, b, x, b1, rs, fz, ob, e1, fun v G1 H1 n1 r => ?_⟩
  unfold isiO at e2
  by_cases hc : isC c x = true
  · rw [if_pos hc] at e2
    cases e2
    obtain ⟨a, ax, vs, fs, rfl, rfl, hs, rl⟩ := isC_rp T hc r
    exact .inl ⟨a, C, ax, _, .ref C, true, rfl, rfl, fun _ z => z, slt_mono n1.fz hs, T.cl, I.si, by simp [PySem.W.kitOne], q _ G1 H1 n1 (.bl _)⟩
  · rw [if_neg hc] at e2
    cases et : tyD x with
    | none => rw [et] at e2; cases e2
    | some t =>
      rw [et] at e2
      cases e2
      exact .inr ⟨v, .ref C, .type t, .ref C, _, rfl, .own C, tyD_of r n1.fz et, I.no t (tyD_mem et), q _ G1 H1 n1 (.bl _)⟩
end
/-! ### a, b = e, f by a tuple that is made and taken apart (names that blocks read) -/
section
variable {X : Cx} {pos : Pos}
theorem newIn_up {H G1 H1 : Hp} {p : Addr} {o : HO} {fq : List Addr} (nw : NewIn H G1 H1 fq) (hp : H1 p = none) : NewIn H G1 (upd H1 p o) fq :=
  ⟨fun a ha => by
    obtain ⟨h1, h2, h3⟩ := nw.1 a ha
    refine ⟨h1, h2, ?_⟩
    rw [upd_ne fun z => h3 (by rw [z]; exact hp)]
    exact h3, nw.2⟩
theorem owl_up {K : PySem.W.Frag} {H G1 H1 : Hp} {p : Addr} {o : HO} {fq : List Addr} {vs : List V} {os : List O} (nw : NewIn H G1 H1 fq) (hp : H1 p = none) (r : OwL K G1 H1 vs os fq) : OwL K G1 (upd H1 p o) vs os fq :=
  r.mono (fun _ _ h => h) fun a ha => upd_ne fun z => (nw.1 a ha).2.2 (by rw [z]; exact hp)
theorem s_parU (i j : Nat) (ms : List Nat) {x y : Str} {a b : Expr} {f : Env → M (List O)} {px py pt : Pos} {kt k2 pt2} (hc : X.calm = true) (hN : X.N.Nodup) (hi : X.N[i]? = some x) (hj : X.N[j]? = some y)
    (hx : Loc X.env.scope x) (hy : Loc X.env.scope y) (ha : DOA X [a, b] f)
    (hfx : X.fn x = true ∨ X.env.scope.names.lookup x = some .local := by first | exact .inl rfl | exact .inr rfl) (hfy : X.fn y = true ∨ X.env.scope.names.lookup y = some .local := by first | exact .inl rfl | exact .inr rfl)
    (hs : swapsWithSole [.Tuple [.Name x px, .Name y py] kt pt] (.Tuple [a, b] k2 pt2) pos.line X.env = pure false := by rfl) (hw : swappedStores [.Tuple [.Name x px, .Name y py] kt pt] (.Tuple [a, b] k2 pt2) X.env = pure none := by rfl)
    (h1 : (assignEach [.Tuple [.Name x px, .Name y py] kt pt] X.env).map (·.2) = [assign (.Tuple [.Name x px, .Name y py] kt pt) X.env] := by rfl) :
    DS X (.Assign [.Tuple [.Name x px, .Name y py] kt pt] (.Tuple [a, b] k2 pt2) pos) (parOM i j ms f) := by
  refine PSimp (ps_asg (pe_tup ha) (pg_tup hc (pgs_cons (pg_name (i := i) hN hi hx hfx) (pgs_cons (pg_name (i := j) hN hj hy hfy) pgs_nil))) hs hw h1) ?_
  rintro D σ H ⟨E, ρ, G, b, o, b', I, e, q⟩
  obtain ⟨os, b1, e1, e2⟩ := M.bind_some e
  refine ⟨_, _, b, os, b1, I.rs ms, I.gp2 ms, I.gpb ms, e1, fun vs fq G1 H1 n1 nw r => ?_⟩
  clear e
  match os, e2, r with
  | [o1, o2], e2, .cons (v := v1) (fp := f1) r1 (.cons (v := v2) (fp := f2) r2 .nil) =>
    cases e2
    refine ⟨by show 2 ≤ sizeLine; decide, fun p hp => ?_⟩
    refine ⟨p, _, rfl, SqT.of upd_same, rfl, v1, _, rfl, v2, _, rfl, rfl, ?_⟩
    obtain ⟨G2, I2, rr, ok, fp, w, fr⟩ := I.afterO (n1.trans (Nxt.newH (o := .tup [v1, v2]) n1.fz n1.bag hp)) (owl_up nw hp (OwL.cons r1 (.cons r2 .nil))) (newIn_up nw hp)
    obtain ⟨g1, g2, h1, h2, hq⟩ := rr.two
    rw [hq] at ok nw
    have nd := List.nodup_append.mp nw.2
    obtain ⟨I3, fp3, w3, sub3⟩ := I2.setO i h1 nd.1 (fun a ha => ok a (List.mem_append_left _ ha)) w fun a ha j hf => fr j a hf (nw.1 a (List.mem_append_left _ ha)).1
    refine q _ G2 _ (I3.setO j h2 nd.2.1 (fun a ha => ok a (List.mem_append_right _ ha)) w3 fun a ha k hf => ?_).1
    rcases sub3 k a hf with z | z
    · exact fr k a z (nw.1 a (List.mem_append_right _ ha)).1
    · exact nd.2.2 a z a ha rfl
end
section
theorem q_eqC (c : Nat) (R : List D → M D) (fs gs : List D) : eqC c R (.obj c fs) (.obj c gs) = R [.obj c fs, .obj c gs] := by
  show M.guard ((c == c) && (c == c)) _ = _
  rw [beq_self_eq_true]; rfl
theorem q_isiO (c : Nat) (fs : List D) : isiO c (.obj c fs) = M.ret (.bl true) := by
  unfold isiO
  rw [if_pos (show isC c (D.obj c fs) = true from beq_self_eq_true c)]
theorem q_isiO_i (c : Nat) (i : Int) : isiO c (.int i) = M.ret (.bl false) := rfl
theorem q_isiO_s (c : Nat) (i : List Nat) : isiO c (.str i) = M.ret (.bl false) := rfl
theorem q_isiO_n (c : Nat) : isiO c .non = M.ret (.bl false) := rfl
theorem q_isiO_l (c : Nat) (i : List D) : isiO c (.lst i) = M.ret (.bl false) := rfl
theorem q_isiO_t (c : Nat) (i : List D) : isiO c (.tup i) = M.ret (.bl false) := rfl
end
end DL
set_option Elab.async false
set_option maxRecDepth 100000
set_option autoImplicit false
set_option linter.unusedVariables false
set_option maxHeartbeats 4000000
namespace DL
open PySem L2 PySem.Spec PyProof.Rows
section
variable {α β : Type}
theorem q_cndN (k : Bool) (a b : M α) (t : Tg (a, b)) : cnd (!k) a b t = cnd k b a := by cases k <;> rfl
theorem q_szL {xs : List D} (h : xs.length ≤ 16777216) (m : M α) : M.guard (szL xs) m = m := M.guard_of (decide_eq_true h)
end
theorem q_sloL1 (a : D) : slotO (.l [.v a]) = .own [a] := rfl
theorem q_sloL2 (a b : D) : slotO (.l [.v a, .v b]) = .own [a, b] := rfl
theorem q_sloL3 (a b c : D) : slotO (.l [.v a, .v b, .v c]) = .own [a, b, c] := rfl
theorem q_c0 : ((0 : Nat) : Int) = 0 := rfl
theorem q_c1 : ((1 : Nat) : Int) = 1 := rfl
theorem q_c2 : ((2 : Nat) : Int) = 2 := rfl
theorem q_c3 : ((3 : Nat) : Int) = 3 := rfl
theorem q_c4 : ((4 : Nat) : Int) = 4 := rfl
theorem q_c5 : ((5 : Nat) : Int) = 5 := rfl
theorem q_c6 : ((6 : Nat) : Int) = 6 := rfl
theorem q_c7 : ((7 : Nat) : Int) = 7 := rfl
theorem q_c8 : ((8 : Nat) : Int) = 8 := rfl
theorem q_c9 : ((9 : Nat) : Int) = 9 := rfl
theorem q_c10 : ((10 : Nat) : Int) = 10 := rfl
theorem q_c11 : ((11 : Nat) : Int) = 11 := rfl
theorem q_c12 : ((12 : Nat) : Int) = 12 := rfl
theorem q_c13 : ((13 : Nat) : Int) = 13 := rfl
theorem q_c14 : ((14 : Nat) : Int) = 14 := rfl
theorem q_c15 : ((15 : Nat) : Int) = 15 := rfl
theorem q_c16 : ((16 : Nat) : Int) = 16 := rfl
/-- whatever a Bool is -/
theorem tot_cnd {α : Type} {p : Addr} {k : Bool} {a b : M α} {t : Tg (a, b)} {P : α → Prop} (h1 : k = true → Tot p a P) (h2 : k = false → Tot p b P) : Tot p (cnd k a b t) P := by
  cases k with
  | true => exact h1 rfl
  | false => exact h2 rfl
theorem tot_cndD {α : Type} {p : Addr} {q : Prop} [Decidable q] {a b : M α} {t : Tg (a, b)} {P : α → Prop} (h1 : q → Tot p a P) (h2 : ¬ q → Tot p b P) : Tot p (cnd (decide q) a b t) P := by
  by_cases h : q
  · rw [cnd_dt h]; exact h1 h
  · rw [cnd_df h]; exact h2 h
/-- a loop unrolled once for all: turns that end in nx with I -/
theorem tot_loopR {β : Type} {p : Addr} {i : Nat} {body : Env2 → M Out} {n : Nat} {f : Nat → D} (I : Env2 → Prop) {ρ : Env2} {κ : Out → M β} {t : Tg κ} {Q : β → Prop} (h0 : I ρ)
    (h : ∀ k, k < n → ∀ ρ, I ρ → Tot p (body (ρ.set i (some (.val (f k))))) fun o => ∃ ρ', (o = .nx ρ' ∨ o = .ct ρ') ∧ I ρ') (hk : ∀ ρ', I ρ' → Tot p (κ (.nx ρ')) Q) :
    Tot p (DL.bnd (loopM (bName i) body ((List.range n).map f) ρ) κ t) Q :=
  tot_loopC I h0 (fun x hx ρ hi => by
    obtain ⟨k, hk, rfl⟩ := List.mem_map.mp hx
    exact ⟨[(i, f k)], rfl, h k (List.mem_range.mp hk) ρ hi⟩) hk
end DL
set_option Elab.async false
set_option maxRecDepth 100000
set_option autoImplicit false
set_option linter.unusedVariables false
set_option maxHeartbeats 4000000
namespace DL
open PySem L2 PySem.Spec PyProof.Rows
/-! ### x in a list of data of any depth -/
def inL (neg : Bool) (d : PyData) : Option (List PyData) → M D
  | some ds => M.guard (SeqAt.shaped d && SeqAt.shaped (.list ds)) (M.ret (.bl (if neg then !(ds.any fun z => PyData.eqv z d) else (ds.any fun z => PyData.eqv z d))))
  | none => M.fail
def inG (neg : Bool) (x : D) : D → M D
  | .lst ys => match toPy x with
    | some d => inL neg d (toPyL ys)
    | none => M.fail
  | _ => M.fail
theorem inG_some {neg : Bool} {x y d : D} {b b' : Bs} (h : inG neg x y b = some (d, b')) : ∃ e ys es, toPy x = some e ∧ y = .lst ys ∧ toPyL ys = some es ∧ SeqAt.shaped e = true ∧ SeqAt.shaped (.list es) = true ∧ d = .bl (if neg then !(es.any fun z => PyData.eqv z e) else (es.any fun z => PyData.eqv z e)) ∧ b = b' := by
  cases y with
  | lst ys =>
    have h : (match toPy x with | some d => inL neg d (toPyL ys) | none => M.fail) b = some (d, b') := h
    cases hx : toPy x with
    | none => rw [hx] at h; cases h
    | some e =>
      rw [hx] at h
      have h : inL neg e (toPyL ys) b = some (d, b') := h
      cases hy : toPyL ys with
      | none => rw [hy] at h; cases h
      | some es =>
        rw [hy] at h
        obtain ⟨c, e2⟩ := M.guard_some h
        rw [Bool.and_eq_true] at c
        cases e2
        exact ⟨e, ys, es, rfl, rfl, hy, c.1, c.2, rfl, rfl⟩
  | _ => cases h
section
variable {X : Cx} {a b : Expr} {pos : Pos} {f g : Env → M D}
theorem toPy_list {ys : List D} {es : List PyData} (h : toPyL ys = some es) : toPy (.lst ys) = some (.list es) := by
  unfold toPy
  rw [h]
theorem snd_inG {K : PySem.W.Frag} : SndR K (rInD K) (inG false) := by
  intro G H b x y dx dy d b' Q rx ry f o e q
  obtain ⟨e1, ys, es, h1, rfl, h2, s1, s2, rfl, rfl⟩ := inG_some e
  exact ⟨e1, es, (rx.mono f).dp h1, (ry.mono f).dp (toPy_list h2), s1, s2, q _ G H (Nxt.refl f o) (.bl _)⟩
theorem snd_notInG {K : PySem.W.Frag} : SndR K (rNotInD K) (inG true) := by
  intro G H b x y dx dy d b' Q rx ry f o e q
  obtain ⟨e1, ys, es, h1, rfl, h2, s1, s2, rfl, rfl⟩ := inG_some e
  exact ⟨e1, es, (rx.mono f).dp h1, (ry.mono f).dp (toPy_list h2), s1, s2, q _ G H (Nxt.refl f o) (.bl _)⟩
theorem t_inG (hu : X.A.units + 65 < cLine) (ha : DE X a f) (hb : DE X b g) (hm : behindInMarks .In b = false := by rfl) : DT X (.Compare a [.In] [b] pos) (t2 (inG false) f g) := t_cmp (op_inD hu) snd_inG ha hb hm
theorem d_inG (hu : X.A.units + 65 < cLine) (ha : DE X a f) (hb : DE X b g) (hm : behindInMarks .In b = false := by rfl) : DE X (.Compare a [.In] [b] pos) (e2 (inG false) f g) := d_cmp (op_inD hu) snd_inG ha hb hm
theorem t_notInG (hu : X.A.units + 65 < cLine) (ha : DE X a f) (hb : DE X b g) (hm : behindInMarks .NotIn b = false := by rfl) : DT X (.Compare a [.NotIn] [b] pos) (t2 (inG true) f g) := t_cmp (op_notInD hu) snd_notInG ha hb hm
theorem d_notInG (hu : X.A.units + 65 < cLine) (ha : DE X a f) (hb : DE X b g) (hm : behindInMarks .NotIn b = false := by rfl) : DE X (.Compare a [.NotIn] [b] pos) (e2 (inG true) f g) := d_cmp (op_notInD hu) snd_notInG ha hb hm
end
theorem any_pl {x : D} {e : PyData} (hx : toPy x = some e) (px : x.pl = true) : ∀ {ys : List D} {es : List PyData}, toPyL ys = some es → D.pls ys = true → (es.any fun z => PyData.eqv z e) = ys.any (fun y => eqB y x)
  | [], es, h, _ => by
    unfold toPyL at h
    cases h
    rfl
  | y :: ys, es, h, p => by
    obtain ⟨a, r, h1, h2, rfl⟩ := toPyL_cons h
    have p : (y.pl && D.pls ys) = true := p
    rw [Bool.and_eq_true] at p
    rw [List.any_cons, List.any_cons, any_pl hx px h2 p.2]
    congr 1
    rw [Bool.eq_iff_iff, eqB_iff]
    exact eqv_pl y x a e p.1 px h1 hx
theorem inG_pl (neg : Bool) {x : D} {ys : List D} (h1 : okA x = true) (h2 : okA (.lst ys) = true) (p1 : x.pl = true) (p2 : D.pls ys = true) : inG neg x (.lst ys) = M.ret (.bl (if neg then !(ys.any fun y => eqB y x) else ys.any fun y => eqB y x)) := by
  unfold okA at h1 h2
  cases e1 : toPy x with
  | none => rw [e1] at h1; cases h1
  | some e =>
    cases e2 : toPy (.lst ys) with
    | none => rw [e2] at h2; cases h2
    | some e' =>
      obtain ⟨es, hy, rfl⟩ := toPy_lst e2
      rw [e1] at h1
      rw [e2] at h2
      simp only [Bool.and_eq_true] at h1 h2
      show (match toPy x with | some d => inL neg d (toPyL ys) | none => M.fail) = _
      rw [e1, hy]
      show M.guard _ _ = _
      rw [M.guard_of, any_pl e1 p1 hy p2]
      rw [Bool.and_eq_true]
      exact ⟨by simp_all, by simp_all⟩
theorem q_compC (i : Nat) (c : Env → M Bool) (e : Env → M D) (ρ : Env) (x : D) (xs : List D) : compM (bName i) c e ρ (x :: xs) = bnd (c (ρ.set i (some x))) fun k => cnd k (bnd (e (ρ.set i (some x))) fun y => bnd (compM (bName i) c e ρ xs) fun ys => M.ret (y :: ys)) (compM (bName i) c e ρ xs) := rfl
theorem q_eqBl (i j : Bool) : eqD false (.bl i) (.bl j) = M.ret (.bl (decide (i = j))) := rfl
theorem q_neBl (i j : Bool) : eqD true (.bl i) (.bl j) = M.ret (.bl (!decide (i = j))) := rfl
end DL
set_option Elab.async false
set_option maxRecDepth 100000
set_option autoImplicit false
set_option linter.unusedVariables false
set_option maxHeartbeats 4000000
namespace DL
open PySem L2 PySem.Spec PyProof.Rows
/-! ### f"{number:04b}" -/
def bin4 (a : Nat) : List Nat := [48 + a / 8 % 2, 48 + a / 4 % 2, 48 + a / 2 % 2, 48 + a % 2]
abbrev sp04b : Str := ⟨#[48, 52, 98]⟩
theorem gives_cut {a : Int} {t : Tok} {n : Nat} {k : String → Sem PySem.Fin} {m : Made} (g : Gives (k "int") m) : Gives (do let z ← typeNameOfCut n (.int a t); k z) m :=
  fun prog w A R s hq => wpAny_bind (wpAny_typeNameOfCut_int (g prog w A R s hq))
theorem gives_04b (a : Nat) (h : a < 16) (t u : Tok) : Gives (Builtin.«int.__format__» ⟨[.int (a : Int) t, .str sp04b u], []⟩) (.str ⟨(bin4 a).toArray⟩) := by
  have hne : (sp04b.length == 0) = false := by decide
  have hasc : ((sp04b.cps.toList.drop 1).any (· ≥ 128) || (sp04b.cps.getD 0 0 ≥ 128 && !([60, 62, 61, 94] : List Nat).contains (sp04b.cps.getD 1 0))) = false := by decide
  unfold Builtin.«int.__format__»
  simp only [selfAndOne, noKeywords, Builtin.Int.intOfSelf, asInt?, asStr?, List.isEmpty_nil, if_true, pure_bind, bind_pure, bind_assoc, hne, hasc, Bool.false_eq_true, if_false, show (Value.str sp04b u == Value.none) = false from rfl]
  refine gives_after_typeNameOf (T := "str") (fun s => typeIs_str s _ _) (by decide) fun _ => ?_
  refine gives_cut ?_
  have : a = 0 ∨ a = 1 ∨ a = 2 ∨ a = 3 ∨ a = 4 ∨ a = 5 ∨ a = 6 ∨ a = 7 ∨ a = 8 ∨ a = 9 ∨ a = 10 ∨ a = 11 ∨ a = 12 ∨ a = 13 ∨ a = 14 ∨ a = 15 := by omega
  rcases this with rfl | rfl | rfl | rfl | rfl | rfl | rfl | rfl | rfl | rfl | rfl | rfl | rfl | rfl | rfl | rfl <;>
  exact .of_eq (by kernel_rfl)
section
variable {X : Cx} {e : Expr} {f : Env → M D} {pos p2 p3 : Pos}
def t04b (te : TE) : TE := fun σ H Q => te σ H fun x H1 => ∃ a : Nat, a < 16 ∧ x = .int (a : Int) ∧ Q (.str ⟨(bin4 a).toArray⟩) H1
theorem pe_04b {te : TE} {kk : Nat} {vs : List Expr} (he : PE X e te) (hv : vs = [.Constant (.str sp04b) kk p2]) : PE X (.FormattedValue e (-1) (some (.JoinedStr vs p3)) pos) (t04b te) := by
  subst hv
  refine ⟨fun pins s σ H Q I h => ?_⟩
  refine wpAny_FormattedValue_spec (thn (he.run pins s σ H _ I h) fun v s1 hv => ?_)
  obtain ⟨x, H1, I1, r1, a, ha, rfl, q⟩ := hv
  obtain ⟨t, rfl⟩ := r1
  have pj : PE X (.JoinedStr [.Constant (.str sp04b) kk p2] p3) (tC (.str sp04b)) := pe_joined1 pe_str
  refine thn (pj.run pins s1 σ H1 (fun v H' => v = .str sp04b ∧ H' = H1) I1 ⟨rfl, rfl⟩) fun w s2 hw => ?_
  obtain ⟨y, H2, I2, r2, rfl, rfl⟩ := hw
  obtain ⟨t2, rfl⟩ := r2
  refine ⟨sp04b, t2, rfl, ?_⟩
  exact wpAny_formatField_spec (by decide) (fun s' => typeIs_int s' _ t) PySem.F.slot_int_format PySem.F.entry_int_format PySem.F.args_int_format_2 (fun u => gives_04b a ha t u) ⟨.str _, H2, I2.tok _, ⟨_, rfl⟩, q⟩ (by decide) (by show 4 ≤ sizeLine; decide)
def bin4D : D → M D
  | .int i => M.guard (decide (0 ≤ i) && decide (i < 16)) (M.ret (.str (bin4 i.toNat)))
  | _ => M.fail
theorem d_04b {kk : Nat} {p4 : Pos} (he : DE X e f) : DE X (.JoinedStr [.FormattedValue e (-1) (some (.JoinedStr [.Constant (.str sp04b) kk p2] p3)) pos] p4) (e1 bin4D f) := by
  refine PEimp (pe_joined1 (pe_04b he rfl)) ?_
  rintro σ H Q ⟨ρ, G, b, d, b', rs, fz, ob, e, q⟩
  obtain ⟨x, b1, e1, e2⟩ := M.bind_some e
  refine ⟨ρ, G, b, x, b1, rs, fz, ob, e1, fun v G1 H1 n1 r => ?_⟩
  cases r with
  | int i =>
    obtain ⟨c, e3⟩ := M.guard_some e2
    cases e3
    rw [Bool.and_eq_true] at c
    have c1 := of_decide_eq_true c.1
    have c2 := of_decide_eq_true c.2
    exact ⟨i.toNat, by omega, by rw [Int.toNat_of_nonneg c1], q _ G1 H1 n1 (.str _)⟩
  | _ => cases e2
theorem q_bin4 {i : Int} (h0 : 0 ≤ i) (h1 : i < 16) : bin4D (.int i) = M.ret (.str (bin4 i.toNat)) := M.guard_of (by rw [decide_eq_true h0, decide_eq_true h1]; rfl)
end
/-! ### C.m(..), m a static method -/
structure SMet (K : PySem.W.Frag) (C : Addr) (m : Str) (p g : Addr) : Prop where
  rd : PySem.W.readsIn K C (.type "type") = true
  ga : PySem.W.specialIn K (.ref C) "__getattribute__" = some (some (.builtin "type.__getattribute__"))
  at_ : PySem.W.findCls K (.ref C) (.type "type") m = some (.get (.builtin "staticmethod.__get__") (.ref p) .none (.ref C))
  rc : ∃ rest, PySem.W.recIn K p "staticmethod" = some (.ref g :: rest)
  kp : PySem.W.keepIn K (.ref g) = true
structure StatAt (K : PySem.W.Frag) (C p : Addr) (m qual : Str) (st : Stmt) (ps : List Str) (f : Addr) (fd : FuncData) : Prop where
  fn : Fun K m qual st f fd
  bd : Binds K fd ps []
  sm : SMet K C m p f
section
variable {X : Cx} {CX : CXT} {k : Nat} {C p g : Addr} {sp : Sp} {E : XK} {e : Expr} {es : List Expr} {m x : Str} {pos apos p2 : Pos} {t : TA} {pl : Sem Bool} {fd : FuncData} {ps : List Str} {n : Nat} {Fn : List D → M D} {Fl : List D → M (List D)} {fa : Env → M (List D)} {c : Nat}
theorem pe_smeth (he : PE X (.Name x p2) (tC (.ref C))) (r : SMet X.K C m p g) (F : FnR X.prog X.w X.K X.mg X.base CX k g sp) (hr : Room k X.A) (hx : Passes CX X E) (ha : PA X (e :: es) t)
    (hst : starEach (e :: es) X.env = (false, eval e X.env) :: starEach es X.env := by rfl) (hpl : (backTo pos (starEach es X.env)).any (·.1) = false := by rfl)
    (ht : eval (.Call (.Attribute (.Name x p2) m apos) (e :: es) [] pos) X.env = (do
      let ov ← eval (.Name x p2) X.env
      standAt apos.atName
      let (f, first) ← holding [ov] (getMethod ov m pl)
      callWith pos f first (backTo pos (starEach (e :: es) X.env)) (backToKw pos (keywordEach [] X.env))) := by rfl) :
    PE X (.Call (.Attribute (.Name x p2) m apos) (e :: es) [] pos) (tCall sp [] E t) := by
  refine ⟨fun pins s σ H Q I h => ?_⟩
  refine PySem.W.methodCall_KW (pl := pl) (thn (he.run pins s σ H (fun v H' => v = .ref C ∧ H' = H) I ⟨rfl, rfl⟩) fun u s1 hu => ?_) ht
  obtain ⟨y, H1, I1, rx, ry, rh⟩ := hu
  subst ry
  subst rh
  obtain rfl : u = Value.ref C := rx
  obtain ⟨rest, hp⟩ := r.rc
  refine PySem.W.method_cls I1.kIn r.ga (PySem.W.cls_bind I1.kIn r.rd r.at_ (wpAny_call (PySem.W.sm_get (s := { s1 with toks := s1.toks + 1 }) I1.kIn hp (PySem.W.handed_on rfl ?_))))
  have I2 := I1.tok (s1.toks + 1)
  refine PySem.W.callWith_K (h₀ := X.base) I.ok.mod.kin r.kp (thn (ha.run pos pins _ σ H1 _ I2 h) fun us s3 hv => ?_) hst hpl
  obtain ⟨vs, H2, I3, rv, q2⟩ := hv
  have q2 : sp vs H2 Q E := by
    have q' : sp (vs ++ []) H2 Q E := q2
    rw [List.append_nil] at q'
    exact q'
  exact ⟨I3.kIn, wpAny_call (run_fnR F hr hx I3 rv q2)⟩
theorem raw1 {P : Program} {w : World} {K : PySem.W.Frag} {mg : Str → Option Value} {base : Heap} {sp : Sp} (F : FnOk P w K mg base CX0 k g fd ps sp) (hb : Binds K fd ps []) : FnR P w K mg base CX0 k g sp := by
  have h := F.raw hb .nil
  intro A outer s H us vs Q E hr e0 hv hs
  exact h A outer s H us vs Q E hr e0 hv (by show sp (vs ++ []) H Q E; rw [List.append_nil]; exact hs)
theorem dn_smeth (T : ClsAt X.K X.mg c C) (r : SMet X.K C m p g) (F : FnOk X.prog X.w X.K X.mg X.base CX0 k g fd ps (spN X.K n Fl)) (hb : Binds X.K fd ps []) (hr : Room k X.A) (hx : clsName c = x) (hgt : Gl X x) (ha : DA X (e :: es) fa) (hn : ArN fa n) (hdt : (x == ("__debug__" : Str)) = false := by decide)
    (hst : starEach (e :: es) X.env = (false, eval e X.env) :: starEach es X.env := by rfl) (hpl : (backTo pos (starEach es X.env)).any (·.1) = false := by rfl)
    (ht : eval (.Call (.Attribute (.Name x p2) m apos) (e :: es) [] pos) X.env = (do
      let ov ← eval (.Name x p2) X.env
      standAt apos.atName
      let (f, first) ← holding [ov] (getMethod ov m pl)
      callWith pos f first (backTo pos (starEach (e :: es) X.env)) (backToKw pos (keywordEach [] X.env))) := by rfl) :
    DN X (.Call (.Attribute (.Name x p2) m apos) (e :: es) [] pos) (nCall Fl fa) :=
  PEimp (pe_smeth (E := E0) (pe_glob hgt (by rw [← hx]; exact T.gl) rfl hdt) r (raw1 F hb) hr pass0 ha hst hpl ht) (callN_f hn)
theorem d_smeth (T : ClsAt X.K X.mg c C) (r : SMet X.K C m p g) (F : FnOk X.prog X.w X.K X.mg X.base CX0 k g fd ps (spD X.K n Fn)) (hb : Binds X.K fd ps []) (hr : Room k X.A) (hx : clsName c = x) (hgt : Gl X x) (ha : DA X (e :: es) fa) (hn : ArN fa n) (hdt : (x == ("__debug__" : Str)) = false := by decide)
    (hst : starEach (e :: es) X.env = (false, eval e X.env) :: starEach es X.env := by rfl) (hpl : (backTo pos (starEach es X.env)).any (·.1) = false := by rfl)
    (ht : eval (.Call (.Attribute (.Name x p2) m apos) (e :: es) [] pos) X.env = (do
      let ov ← eval (.Name x p2) X.env
      standAt apos.atName
      let (f, first) ← holding [ov] (getMethod ov m pl)
      callWith pos f first (backTo pos (starEach (e :: es) X.env)) (backToKw pos (keywordEach [] X.env))) := by rfl) :
    DE X (.Call (.Attribute (.Name x p2) m apos) (e :: es) [] pos) (eCall Fn fa) :=
  PEimp (pe_smeth (E := E0) (pe_glob hgt (by rw [← hx]; exact T.gl) rfl hdt) r (raw1 F hb) hr pass0 ha hst hpl ht) (call_f hn)
end
end DL
set_option Elab.async false
set_option maxRecDepth 100000
set_option autoImplicit false
set_option linter.unusedVariables false
set_option maxHeartbeats 4000000
namespace DL
open PySem L2 PySem.Spec PyProof.Rows
/-! ### sum(lists, []) -/
def preL (ws : Nat → List Value) : Nat → List Value
  | 0 => []
  | j + 1 => preL ws j ++ ws j
theorem args_sum2 (a b : Value) : argsOk "sum" ⟨[a, b], []⟩ := by unfold argsOk; kernel_rfl
section
variable {prog : Program} {w : World} {A : Around} {R : Result → Shared → Prop} {I : Addr} {fp wr : List Addr} {n : Nat} {P : Nat → Value → Prop} {St : Nat → Heap → Prop}
theorem codeAny_sum_loopL (W : Walks prog w A.in1 I fp wr n P St) (S : Addr) (hSf : S ∉ fp) (h0 : Heap) (hS0 : h0.objs.size ≤ S) (hwr : ∀ b ∈ wr, b < h0.objs.size) (ws : Nat → List Value) (T0 : Addr)
    (hval : ∀ i v, P i v → ∃ li c, v = .ref li ∧ IsL h0 li (ws i).toArray c ∧ li ∉ wr ∧ li ≠ S) (hsz : ∀ j, j ≤ n → (preL ws j).length ≤ sizeLine) :
    ∀ (k i : Nat) (s : Shared) (T : Addr) (cT c : Nat), n - i = k → i ≤ n → St i s.heap → IsL s.heap S #[.ref T] c → IsL s.heap T (preL ws i).toArray cT → T ∉ wr → T ≠ S → ((i = 0 ∧ T = T0) ∨ (0 < i ∧ h0.objs.size ≤ T)) →
    (∀ b o, b ∉ wr → b ≠ S → h0.get? b = some o → s.heap.get? b = some o) →
    (∀ h' tk T' cT', (∀ b o, b ∉ wr → b ≠ S → s.heap.get? b = some o → h'.get? b = some o) → IsL h' T' (preL ws n).toArray cT' → ((n = 0 ∧ T' = T0) ∨ (0 < n ∧ h0.objs.size ≤ T')) → R (.ok (.ret (.ref T'))) { s with heap := h', toks := tk }) →
    codeAny (model prog w) A (.builtin "sum.loop" ⟨[.ref I, .ref S, rawInt 2, rawInt 0], []⟩) R s := by
  have hSw : S ∉ wr := fun h => hSf (W.sub _ h)
  intro k
  induction k with
  | zero =>
    intro i s T cT c hk hi hst hS hT hTw hTS hfr hkp hR
    have hin : i = n := by omega
    subst hin
    refine codeAny_builtin F.entry_sum_loop ?_
    rw [Around.under_plainId F.plain_sum_loop _]
    show wpAny _ A.in1 (seqItems? (.ref S) >>= _) _ _ s
    refine wpAny_bind (wpAny_seqItems hS rfl ?_)
    show wpAny _ A.in1 (tryCatch (pyNext (.ref I)) _ >>= _) _ _ s
    refine wpAny_bind (wpAny_tryCatch (W.done s _ _ hst fun h' tk hk' => ?_))
    exact wpAny_pure (hR h' tk T cT (fun b o hbw _ e => hk' b o hbw e) (hk' T _ hTw hT) hfr)
  | succ k ih =>
    intro i s T cT c hk hi hst hS hT hTw hTS hfr hkp hR
    have hlt : i < n := by omega
    refine codeAny_builtin F.entry_sum_loop ?_
    rw [Around.under_plainId F.plain_sum_loop _]
    show wpAny _ A.in1 (seqItems? (.ref S) >>= _) _ _ s
    refine wpAny_bind (wpAny_seqItems hS rfl ?_)
    show wpAny _ A.in1 (tryCatch (pyNext (.ref I)) _ >>= _) _ _ s
    refine wpAny_bind (wpAny_tryCatch (W.item i s _ _ hlt hst fun v h' tk hP hst' hk' => ?_))
    obtain ⟨li, cl, rfl, hli, hlw, hlS⟩ := hval i v hP
    have hS' := hk' S _ hSw hS
    have hT' := hk' T _ hTw hT
    have hl' := hk' li _ hlw (hkp li _ hlw hlS hli)
    show wpAny _ A.in1 ((holding [Value.ref li] (binaryOp .Add (.ref T) (.ref li))).attempt >>= _) _ _ _
    have hs1 : (preL ws (i + 1)).length = (preL ws i).length + (ws i).length := by
      show (preL ws i ++ ws i).length = _
      exact List.length_append
    refine wpAny_bind (wpAny_attempt (wpAny_holding (PySem.P.add_list hT' hl' ?_ (by rw [List.size_toArray, List.size_toArray]; have := hsz (i + 1) hlt; omega))))
    have ea : (preL ws i).toArray ++ (ws i).toArray = (preL ws (i + 1)).toArray := by
      show _ = (preL ws i ++ ws i).toArray
      simp
    rw [ea]
    have hSlt := Heap.lt_size hS'
    have hS1 : (h'.push { cls := .type "list", data := .seq (preL ws (i + 1)).toArray }).get? S = _ := Heap.get?_push_of_some _ hS'
    show wpAny _ A.in1 (updateSeq S (fun _ => #[.ref h'.objs.size]) >>= _) _ _ _
    refine wpAny_bind ?_
    refine wpAny_updateSeq hS1 rfl ?_
    have hS2 := Heap.get?_update_self (Obj.mapSeq fun _ => #[Value.ref h'.objs.size]) hS1 rfl
    refine wpAny_bind (wpAny_letGo ?_)
    refine wpAny_bind ?_
    have hSl : S < h'.objs.size := hSlt
    have hne : S ≠ h'.objs.size := Nat.ne_of_lt hSl
    have hge : h0.objs.size ≤ h'.objs.size := Nat.le_of_lt (Nat.lt_of_le_of_lt hS0 hSl)
    refine wpAny_updateSeq hS2 rfl (wpAny_pure ⟨plainId_quiet F.plain_sum_loop _, ih (i + 1) _ h'.objs.size 0 _ (by omega) hlt (W.frame _ _ _ hst' fun b hb o e => ?_) (Heap.get?_update_self _ hS2 rfl) ?_ ?_ (Ne.symm hne) (.inr ⟨Nat.succ_pos _, hge⟩) (fun b o hbw hbS e => ?_) fun h'' tk'' T'' c'' hk'' => ?_⟩)
    · exact (Heap.get?_update_other _ _ (fun h : S = b => hSf (by rw [h]; exact hb))).trans ((Heap.get?_update_other _ _ (fun h : S = b => hSf (by rw [h]; exact hb))).trans (Heap.get?_push_of_some _ e))
    · exact (Heap.get?_update_other _ _ hne).trans ((Heap.get?_update_other _ _ hne).trans (Heap.get?_push_size h' rfl))
    · exact fun hm => Nat.lt_irrefl _ (Nat.lt_of_lt_of_le (hwr _ hm) hge)
    · exact (Heap.get?_update_other _ _ (Ne.symm hbS)).trans ((Heap.get?_update_other _ _ (Ne.symm hbS)).trans (Heap.get?_push_of_some _ (hk' b o hbw (hkp b o hbw hbS e))))
    · exact hR h'' tk'' T'' c'' fun b o hbw hbS e => hk'' b o hbw hbS ((Heap.get?_update_other _ _ (Ne.symm hbS)).trans ((Heap.get?_update_other _ _ (Ne.symm hbS)).trans (Heap.get?_push_of_some _ (hk' b o hbw e))))
end
section
variable {prog : Program} {w : World} {A : Around} {E : Value → Shared → Prop} {s : Shared}
theorem call_sumL {l st : Addr} {its : List Value} {c cs : Nat} {ws : Nat → List Value} {Q : Value → Shared → Prop} (hh : A.handled = none) (hl : IsL s.heap l its.toArray c) (hst : IsL s.heap st #[] cs)
    (hit : ∀ i v, its[i]? = some v → ∃ li c, v = .ref li ∧ IsL s.heap li (ws i).toArray c) (hsz : ∀ j, j ≤ its.length → (preL ws j).length ≤ sizeLine)
    (h : ∀ h' tk T c, (∀ b o, s.heap.get? b = some o → h'.get? b = some o) → IsL h' T (preL ws its.length).toArray c → ((its.length = 0 ∧ T = st) ∨ (0 < its.length ∧ s.heap.objs.size ≤ T)) → Q (.ref T) { s with heap := h', toks := tk }) :
    wpAny (model prog w) A (call (.builtin "sum") [.ref l, .ref st]) Q E s := by
  refine call_function_tree F.kind_sum F.plain_sum F.entry_sum (args_sum2 _ _) ?_
  unfold Builtin.«sum»
  simp only [List.length_cons, List.length_nil]
  rw [if_neg (by decide)]
  refine wpAny_bind (wpAny_of_eq (show Builtin.Builtins.bindParams "sum" ["start"] 0 ⟨[.ref st], []⟩ = pure [some (.ref st)] from rfl) ?_)
  have hll : l < s.heap.objs.size := Heap.lt_size hl
  have hsl : st < s.heap.objs.size := Heap.lt_size hst
  refine wpAny_bind (wpAny_pyIter_list (items := its.toArray) ⟨_, hl, rfl, _, rfl⟩ ?_)
  refine wpAny_bind (wpAny_pure ?_)
  simp only [List.forIn_cons, List.forIn_nil]
  have ht : ∀ (tk : Nat) (h' : Heap), IsL h' st #[] cs → (Shared.TypeIs { s with heap := h', toks := tk } (.ref st) "list") := fun tk h' e => ⟨_, e, rfl⟩
  have hst1 : IsL (s.heap.push { cls := .type "list_iterator", data := .fields #[.ref l, .int 0 0] }) st #[] cs := Heap.get?_push_of_some _ hst
  refine wpAny_bind (wpAny_bind (wpAny_bind (wpAny_isInstance (T := "list") (b := false) (ht _ _ hst1) sub_list_str ?_)))
  simp only [Bool.false_eq_true, if_false]
  refine wpAny_pure (wpAny_bind (wpAny_bind (wpAny_isInstance (T := "list") (b := false) (ht _ _ hst1) PySem.F.sub_list_bytes ?_)))
  simp only [Bool.false_eq_true, if_false]
  refine wpAny_pure (wpAny_bind (wpAny_bind (wpAny_isInstance (T := "list") (b := false) (ht _ _ hst1) PySem.F.sub_list_bytearray ?_)))
  simp only [Bool.false_eq_true, if_false]
  refine wpAny_pure (wpAny_pure ?_)
  refine wpAny_bind (wpAny_newObj_type ?_)
  have hsz1 : (s.heap.push { cls := .type "list_iterator", data := .fields #[.ref l, .int 0 0] }).objs.size = s.heap.objs.size + 1 := Heap.size_push ..
  have hI : (s.heap.push { cls := .type "list_iterator", data := .fields #[.ref l, .int 0 0] }).get? s.heap.objs.size = _ := Heap.get?_push_size _ rfl
  have hne : l ≠ s.heap.objs.size := Nat.ne_of_lt hll
  have W := Walks.list (prog := prog) (w := w) (A := A.in1) hh s.heap.objs.size l hne its.toArray
  have hSf : (s.heap.push { cls := .type "list_iterator", data := .fields #[.ref l, .int 0 0] }).objs.size ∉ [s.heap.objs.size, l] := by
    rw [hsz1]
    intro hm
    rcases List.mem_cons.mp hm with e | hm
    · exact Nat.succ_ne_self _ e
    · rcases List.mem_cons.mp hm with e | hm
      · exact absurd hll (by rw [← e]; exact Nat.not_lt.mpr (Nat.le_succ _))
      · cases hm
  have lt2 : ∀ {a : Addr}, a < s.heap.objs.size → a ∉ [s.heap.objs.size] ∧ a ≠ (s.heap.push { cls := .type "list_iterator", data := .fields #[.ref l, .int 0 0] }).objs.size := by
    intro a ha
    refine ⟨fun hm => ?_, fun e => ?_⟩
    · rcases List.mem_cons.mp hm with e | hm
      · exact Nat.ne_of_lt ha e
      · cases hm
    · rw [hsz1] at e
      exact Nat.ne_of_lt (Nat.lt_succ_of_lt ha) e
  refine wpAny_pure ⟨plainId_quiet F.plain_sum_loop _, codeAny_sum_loopL W _ hSf (s.heap.push { cls := .type "list_iterator", data := .fields #[.ref l, .int 0 0] }) (Nat.le_refl _) (fun b hb => ?_) ws st (fun i v hP => ?_) (fun j hj => hsz j (by simpa using hj)) its.toArray.size 0 _ st cs 0 rfl (Nat.zero_le _) ⟨⟨_, Heap.get?_push_of_some _ hI, rfl, rfl⟩, ?_⟩ (Heap.get?_push_size _ rfl) (Heap.get?_push_of_some _ hst1) (lt2 hsl).1 (lt2 hsl).2 (.inl ⟨rfl, rfl⟩) (fun b o _ _ e => Heap.get?_push_of_some _ e) fun h' tk T cT hk hT hfr => ?_⟩
  · rcases List.mem_cons.mp hb with rfl | hb
    · rw [hsz1]; exact Nat.lt_succ_self _
    · cases hb
  · obtain ⟨li, cl, rfl, hli⟩ := hit i v (by simpa using hP)
    exact ⟨li, cl, rfl, Heap.get?_push_of_some _ hli, (lt2 (Heap.lt_size hli)).1, (lt2 (Heap.lt_size hli)).2⟩
  · exact ⟨_, Heap.get?_push_of_some _ (Heap.get?_push_of_some _ hl), rfl, _, rfl⟩
  · have e : its.toArray.size = its.length := List.size_toArray
    rw [e] at hT hfr
    refine h h' tk T cT (fun b o e => ?_) hT (hfr.imp (fun z => z) fun z => ⟨z.1, Nat.le_trans (by rw [hsz1]; exact Nat.le_succ _) z.2⟩)
    have hb := Heap.lt_size e
    exact hk b o (lt2 hb).1 (lt2 hb).2 (Heap.get?_push_of_some _ (Heap.get?_push_of_some _ e))
end
theorem preL_map (xss : List (List Value)) : ∀ j, j ≤ xss.length → preL (fun i => xss.getD i []) j = (xss.take j).flatten
  | 0, _ => rfl
  | j + 1, h => by
    show preL _ j ++ xss.getD j [] = _
    rw [preL_map xss j (by omega), List.take_add_one, List.flatten_append, List.getD_eq_getElem?_getD]
    rw [List.getElem?_eq_getElem (by omega)]
    simp
/-- lists in the heap, one for each address -/
inductive Lss (H : Hp) : List Addr → List (List V) → Prop
  | nil : Lss H [] []
  | cons {a : Addr} {xs : List V} {as : List Addr} {xss : List (List V)} : H a = some (.lst xs) → Lss H as xss → Lss H (a :: as) (xs :: xss)
def rSumL : List V → Hp → VK → Prop := fun vs H Q => ∃ (a b : Addr) (ls : List Addr) (xss : List (List V)), vs = [V.ref a, V.ref b] ∧ H a = some (.lst (ls.map V.ref)) ∧ H b = some (.lst []) ∧ Lss H ls xss ∧ xss.flatten.length ≤ sizeLine ∧
  (xss = [] → Q (.ref b) H) ∧ (xss ≠ [] → ∀ p, H p = none → Q (.ref p) (upd H p (.lst xss.flatten)))
section
variable {X : Cx} {pins : List (Addr × Obj)} {σ : L2.St} {H : Hp} {s : Shared}
theorem lss_len {ls : List Addr} {xss : List (List V)} (h : Lss H ls xss) : ls.length = xss.length := by
  induction h with
  | nil => rfl
  | cons _ _ ih => rw [List.length_cons, List.length_cons, ih]
theorem lss_vals (I : Inv X pins σ H s) : ∀ {ls : List Addr} {xss : List (List V)}, Lss H ls xss → ∃ uss : List (List Value), uss.length = xss.length ∧ Vals xss.flatten uss.flatten ∧ (∀ k, (xss.take k).flatten.length = (uss.take k).flatten.length) ∧ ∀ i v, (ls.map Value.ref)[i]? = some v → ∃ li c, v = .ref li ∧ IsL s.heap li (uss.getD i []).toArray c
  | _, _, .nil => ⟨[], rfl, .nil, fun k => by simp, fun i v h => by simp at h⟩
  | _, _, .cons (a := a) (xs := xs) h r => by
    obtain ⟨z, its, n, rv, hl, e⟩ := I.lstM h
    obtain ⟨uss, h1, h2, h3, h4⟩ := lss_vals I r
    refine ⟨its :: uss, by simp [h1], ?_, fun k => ?_, fun i v hv => ?_⟩
    · rw [List.flatten_cons, List.flatten_cons]
      exact rv.append h2
    · cases k with
      | zero => simp
      | succ k =>
        rw [List.take_succ_cons, List.take_succ_cons, List.flatten_cons, List.flatten_cons, List.length_append, List.length_append, h3 k, hl]
    · cases i with
      | zero =>
        simp at hv
        subst hv
        exact ⟨a, n, rfl, e⟩
      | succ i =>
        obtain ⟨li, c, e1, e2⟩ := h4 i v (by simpa using hv)
        exact ⟨li, c, e1, by simpa using e2⟩
theorem vals_refs : ∀ {ls : List Addr} {us : List Value}, Vals (ls.map V.ref) us → us = ls.map Value.ref
  | [], us, h => by
    rw [List.map_nil] at h
    cases h
    rfl
  | a :: ls, us, h => by
    rw [List.map_cons] at h
    cases h with
    | cons r t =>
      cases r
      rw [vals_refs t, List.map_cons]
theorem cr_sumL (hc : X.calm = true) : CallR X (.builtin "sum") rSumL := by
  intro pins s σ H vs us Q I r h
  obtain ⟨a, b, ls, xss, rfl, ha, hb, hl, hz, q0, q1⟩ := h
  obtain ⟨u, u', rfl, ru, ru'⟩ : ∃ u u', us = [u, u'] ∧ RelV (.ref a) u ∧ RelV (.ref b) u' := by
    cases r with
    | cons r1 r2 => cases r2 with
      | cons r2 r3 => cases r3; exact ⟨_, _, rfl, r1, r2⟩
  cases ru
  cases ru'
  obtain ⟨z, its, n, rv, hlen, e⟩ := I.lstM ha
  obtain ⟨z2, its2, n2, rv2, hlen2, e2⟩ := I.lstM hb
  have hits := vals_refs rv
  subst hits
  cases rv2
  obtain ⟨uss, h1, h2, h3, h4⟩ := lss_vals I hl
  have ll := lss_len hl
  have pe : ∀ j, j ≤ (ls.map Value.ref).length → (preL (fun i => uss.getD i []) j).length ≤ sizeLine := fun j hj => by
    rw [List.length_map] at hj
    rw [preL_map uss j (by omega), ← h3 j]
    refine Nat.le_trans ?_ hz
    have := congrArg List.length (congrArg List.flatten (List.take_append_drop j xss))
    rw [List.flatten_append, List.length_append] at this
    omega
  refine call_sumL (ws := fun i => uss.getD i []) (I.ok.hd hc) e e2 h4 pe fun h' tk T c hk hT hfr => ?_
  have ef : preL (fun i => uss.getD i []) (ls.map Value.ref).length = uss.flatten := by
    rw [List.length_map, preL_map uss _ (by omega), List.take_of_length_le (by omega)]
  rw [ef] at hT
  rw [List.length_map] at hfr
  rcases hfr with ⟨hn, rfl⟩ | ⟨hn, hfr⟩
  · have : xss = [] := List.length_eq_zero_iff.mp (by omega)
    exact ⟨.ref T, H, I.kept hk, rfl, q0 this⟩
  · have hx : xss ≠ [] := fun e => by rw [e, List.length_nil] at ll; omega
    have ok : ObjOk X.prog X.w (upd H T (.lst xss.flatten)) h' T (.lst xss.flatten) := ⟨hz, _, c, h2, hT⟩
    exact ⟨.ref T, _, I.laid hk hfr ok, rfl, q1 hx T (I.hok.fresh hfr)⟩
end
def lssD : List D → Option (List (List D))
  | [] => some []
  | .lst xs :: r => (lssD r).map (xs :: ·)
  | _ => none
theorem lssD_map {α : Type} (f : α → List D) : ∀ as : List α, lssD (as.map fun a => D.lst (f a)) = some (as.map f)
  | [] => rfl
  | a :: r => by
    show (lssD (r.map fun a => D.lst (f a))).map _ = _
    rw [lssD_map f r]
    rfl
theorem lss_of {K : PySem.W.Frag} {G : Hp} : ∀ {vs : List V} {ds : List D} {xss : List (List D)}, RpL K G vs ds → lssD ds = some xss → ∃ (ls : List Addr) (vss : List (List V)), vs = ls.map V.ref ∧ Lss G ls vss ∧ RpL K G vss.flatten xss.flatten ∧ vss.length = xss.length
  | _, _, _, .nil, h => by cases h; exact ⟨[], [], rfl, .nil, .nil, rfl⟩
  | _, _, xss, .cons (d := d) r rs, h => by
    cases d with
    | lst xs =>
      obtain ⟨yss, h1, rfl⟩ := Option.map_eq_some_iff.mp h
      obtain ⟨ls, vss, rfl, h2, h3, h4⟩ := lss_of rs h1
      cases r with
      | lst g rl => exact ⟨_ :: ls, _ :: vss, rfl, .cons g h2, by rw [List.flatten_cons, List.flatten_cons]; exact rl.append h3, by simp [h4]⟩
    | _ => cases h
theorem Lss.mono {G H : Hp} (s : Same G H) : ∀ {ls : List Addr} {vss : List (List V)}, Lss G ls vss → Lss H ls vss
  | _, _, .nil => .nil
  | _, _, .cons h r => .cons (s _ _ h) (Lss.mono s r)
def sumLK : Option (List (List D)) → M D
  | some xss => M.guard (decide (xss.flatten.length ≤ sizeLine)) (M.ret (.lst xss.flatten))
  | none => M.fail
def sumLF : List D → M D
  | [.lst ds, .lst []] => sumLK (lssD ds)
  | _ => M.fail
theorem sumLF_some {ds : List D} {d : D} {b b' : Bs} (h : sumLF ds b = some (d, b')) : ∃ xs xss, ds = [.lst xs, .lst []] ∧ lssD xs = some xss ∧ xss.flatten.length ≤ sizeLine ∧ d = .lst xss.flatten ∧ b = b' := by
  unfold sumLF at h
  split at h
  · rename_i xs
    cases e : lssD xs with
    | none => rw [e] at h; cases h
    | some xss =>
      rw [e] at h
      obtain ⟨c, e2⟩ := M.guard_some h
      cases e2
      exact ⟨xs, xss, rfl, e, of_decide_eq_true c, rfl, rfl⟩
  · cases h
theorem snd_sumL {X : Cx} : SndC X.K rSumL sumLF := by
  intro G H b vs ds d b' Q r fz ob e q
  obtain ⟨xs, xss, rfl, h1, h2, rfl, rfl⟩ := sumLF_some e
  obtain ⟨v, w, rfl, r1, r2⟩ := r.two
  cases r1 with
  | lst g1 l1 => cases r2 with
    | lst g2 l2 =>
      cases l2
      obtain ⟨ls, vss, rfl, h3, h4, h5⟩ := lss_of l1 h1
      have hl := h4.length
      refine ⟨_, _, ls, vss, rfl, fz _ _ g1, fz _ _ g2, h3.mono fz, by rw [hl]; exact h2, fun hn => ?_, fun hn p hp => ?_⟩
      · subst hn
        obtain rfl : xss = [] := List.length_eq_zero_iff.mp (by rw [← h5]; rfl)
        exact q _ G H (Nxt.refl fz ob) (.lst g2 .nil)
      · have m := Nxt.newF (o := .lst vss.flatten) fz ob hp
        exact q _ _ _ m (.lst upd_same (h4.mono m.gg))
theorem d_sumL {X : Cx} {a c : Expr} {p pos : Pos} {fa : Env → M (List D)} (hc : X.calm = true) (hg : Gl X "sum") (hm : X.mg "sum" = none) (ha : DA X [a, c] fa) (he : starEach [a, c] X.env = (false, eval a X.env) :: starEach [c] X.env := by rfl) (hpl : (backTo pos (starEach [c] X.env)).any (·.1) = false := by rfl) :
    DE X (.Call (.Name "sum" p) [a, c] [] pos) (fun ρ => M.bind (fa ρ) sumLF) := d_callB (cr_sumL hc) snd_sumL hg hm (by decide +kernel) ha (he := he) (hpl := hpl)
theorem q_sumL {α : Type} (f : α → List D) (as : List α) (h : (as.map f).flatten.length ≤ 16777216) : sumLF [.lst (as.map fun a => D.lst (f a)), .lst []] = M.ret (.lst (as.map f).flatten) := by
  show sumLK (lssD _) = _
  rw [lssD_map]
  exact M.guard_of (decide_eq_true h)
/-! ### o(..), o an instance of a class with __call__ -/
section
variable {X : Cx} {c : Nat} {C : Addr} {e o : Expr} {es : List Expr} {f : Env → M D} {fa : Env → M (List D)} {pos : Pos} {k : Nat} {g : Addr} {fd : FuncData} {ps : List Str} {n : Nat} {Fn : List D → M D}
theorem d_callO (T : ClsAt X.K X.mg c C) (hm : Meth X.K C "__call__" g) (hf : PySem.W.fnIn X.K g = true) (F : FnOk X.prog X.w X.K X.mg X.base CX0 k g fd ps (spD X.K (n + 1) Fn)) (hb : Binds X.K fd ps []) (hr : Room k X.A) (he : DE X o f) (ha : DA X (e :: es) fa) (hn : ArN fa n)
    (ht : eval (.Call o (e :: es) [] pos) X.env = (do callWith pos (← eval o X.env) [] (backTo pos (starEach (e :: es) X.env)) (backToKw pos (keywordEach [] X.env))) := by rfl)
    (hst : starEach (e :: es) X.env = (false, eval e X.env) :: starEach es X.env := by rfl) (hpl : (backTo pos (starEach es X.env)).any (·.1) = false := by rfl) :
    DE X (.Call o (e :: es) [] pos) (eMeth c Fn f fa) := by
  refine PEimp (StX.pe_callO (E := E0) he ⟨hm.at_, hm.fn, hf⟩ (raw1 F hb) hr pass0 ha ht hst hpl) ?_
  rintro σ H Q ⟨ρ, G, b, d, b', rs, fz, ob, e, q⟩
  obtain ⟨x, b1, e1, e2⟩ := M.bind_some e
  obtain ⟨hc, e3⟩ := M.guard_some e2
  obtain ⟨ds, b2, e4, e5⟩ := M.bind_some e3
  refine ⟨ρ, G, b, x, b1, rs, fz, ob, e1, fun v G1 H1 n1 r => ?_⟩
  obtain ⟨a, dx, vs, fs, rfl, rfl, hs, rl⟩ := isC_rp T hc r
  refine ⟨a, rfl, ρ, G1, b1, ds, b2, rs.mono n1.gg, n1.fz, n1.bag, e4, fun ws G2 H2 n2 r2 => ?_⟩
  refine ⟨.inl ⟨dx, _, slt_mono n2.fz (slt_mono n2.gg hs)⟩, G2, b2, .obj c fs :: ds, d, b', .cons (r.mono n2.gg) r2, by simp [hn _ _ _ _ e4], n2.fz, n2.bag, e5, fun v G3 H3 n3 r3 => q v G3 H3 ((n1.trans n2).trans n3) r3⟩
end
end DL
set_option Elab.async false
set_option maxRecDepth 100000
set_option autoImplicit false
set_option linter.unusedVariables false
set_option maxHeartbeats 4000000
namespace DL
open PySem L2 PySem.Spec PyProof.Rows
theorem upd_more {G : Hp} {p : Addr} {o : HO} (gp : G p = none) : Same G (upd G p o) := fun a u h => by rw [upd_ne (ne_of_none h gp)]; exact h
/-- an object that was made on the way is frozen -/
theorem Nxt.freeze {G H G' H' : Hp} {b b' : Bs} {p : Addr} {o : HO} (n : Nxt G H b G' H' b') (ob : BagOk G H b) (hp : H p = none) (gp : G' p = none) (hh : H' p = some o) : Nxt G H b (upd G' p o) H' b' := by
  have sg : Same G' (upd G' p o) := upd_more gp
  refine ⟨fun a u h => sg a u (n.gg a u h), fun a u h => ?_, n.keep, fun a u h hn => ?_, ?_, n.like⟩
  · by_cases ea : a = p
    · subst ea; rw [upd_same] at h; cases h; exact hh
    · rw [upd_ne ea] at h; exact n.fz a u h
  · rw [upd_ne (ne_of_none h hp)]; exact n.new a u h hn
  · have ob' := n.bag
    cases b' with
    | none => trivial
    | some g =>
      obtain ⟨h1, h2, h3⟩ := ob'
      refine ⟨?_, h2, sg _ _ h3⟩
      have nb := bag_ne ob hp
      rw [upd_ne fun z => nb (by rw [Bs.like_at n.like, ← z]; rfl)]
      exact h1
/-! ### dict displays -/
def prsM : List ((Env → M D) × (Env → M D)) → Env → M (List (D × D))
  | [], _ => M.ret []
  | (f, g) :: r, ρ => M.bind (f ρ) fun x => M.bind (g ρ) fun y => M.bind (prsM r ρ) fun l => M.ret ((x, y) :: l)
abbrev RpQ (K : PySem.W.Frag) (G : Hp) : List (V × V) → List (D × D) → Prop := Paired fun p q => Rp K G p.1 q.1 ∧ Rp K G p.2 q.2
theorem RpQ.mono {K : PySem.W.Frag} {G G' : Hp} (e : Same G G') : ∀ {vs : List (V × V)} {ds : List (D × D)}, RpQ K G vs ds → RpQ K G' vs ds
  | _, _, .nil => .nil
  | _, _, .cons a b => .cons ⟨a.1.mono e, a.2.mono e⟩ (RpQ.mono e b)
theorem tPairs_f {K : PySem.W.Frag} : ∀ {prs : List ((Env → M D) × (Env → M D))} {σ : L2.St} {H : Hp} {Q : List (V × V) → Hp → Prop} {ρ : Env} {G : Hp} {b b' : Bs} {l : List (D × D)}, RS K G σ ρ → Same G H → BagOk G H b → prsM prs ρ b = some (l, b') →
    (∀ vs G' H', Nxt G H b G' H' b' → RpQ K G' vs l → Q vs H') → tPairs (prs.map fun p => (tF K p.1, tF K p.2)) σ H Q
  | [], σ, H, Q, ρ, G, b, b', l, rs, fz, ob, e, q => by
    cases e
    exact q [] G H (Nxt.refl fz ob) .nil
  | (f, g) :: r, σ, H, Q, ρ, G, b, b', l, rs, fz, ob, e, q => by
    obtain ⟨x, b1, e1, e⟩ := M.bind_some e
    obtain ⟨y, b2, e2, e⟩ := M.bind_some e
    obtain ⟨l2, b3, e3, e⟩ := M.bind_some e
    cases e
    refine ⟨ρ, G, b, x, b1, rs, fz, ob, e1, fun v G1 H1 n1 r1 => ?_⟩
    refine ⟨ρ, G1, b1, y, b2, rs.mono n1.gg, n1.fz, n1.bag, e2, fun v2 G2 H2 n2 r2 => ?_⟩
    refine tPairs_f (prs := r) ((rs.mono n1.gg).mono n2.gg) n2.fz n2.bag e3 fun vs G3 H3 n3 r3 => ?_
    exact q _ G3 H3 ((n1.trans n2).trans n3) (.cons ⟨(r1.mono n2.gg).mono n3.gg, r2.mono n3.gg⟩ r3)
def dispD : List (D × D) → Option (List Key × List D)
  | [] => some ([], [])
  | (x, y) :: r => match keyD x, dispD r with
    | some k, some (ks, ds) => some (k :: ks, y :: ds)
    | _, _ => none
theorem mergeK_new : ∀ (more acc : List (Key × V)), ((acc ++ more).map (·.1)).Nodup → mergeK acc more = acc ++ more
  | [], acc, _ => by simp [mergeK]
  | (k, v) :: r, acc, h => by
    have hk : (acc.any fun kv => decide (kv.1 = k)) = false := by
      rw [List.any_eq_false]
      intro kv hkv hd
      rw [List.map_append, List.nodup_append] at h
      exact h.2.2 kv.1 (List.mem_map.mpr ⟨kv, hkv, rfl⟩) k (by simp) (of_decide_eq_true hd)
    show mergeK (putK acc k v) r = _
    unfold putK
    rw [hk, if_neg (by simp), mergeK_new r (acc ++ [(k, v)]) (by simpa using h)]
    simp
theorem dispD_of {K : PySem.W.Frag} {G : Hp} : ∀ {vs : List (V × V)} {l : List (D × D)} {ks : List Key} {ds : List D}, RpQ K G vs l → dispD l = some (ks, ds) → ∃ us : List V, vs = (ks.zip us).map (fun kv => (kV kv.1, kv.2)) ∧ ks.length = us.length ∧ RpL K G us ds
  | _, _, _, _, .nil, h => by cases h; exact ⟨[], rfl, rfl, .nil⟩
  | _, _, ks, ds, .cons (b := (x, y)) (l₂ := bs) (a := (v, u)) r rs, h => by
    unfold dispD at h
    cases e1 : keyD x with
    | none => rw [e1] at h; cases h
    | some k =>
      cases e2 : dispD bs with
      | none => rw [e1, e2] at h; cases h
      | some p =>
        obtain ⟨ks2, ds2⟩ := p
        rw [e1, e2] at h
        cases h
        obtain ⟨us, h1, h2, h3⟩ := dispD_of rs e2
        have hk := keyD_of r.1 e1
        have hk : v = kV k := hk
        subst hk
        exact ⟨u :: us, by rw [h1]; rfl, by simp [h2], .cons r.2 h3⟩
def eDispK : Option (List Key × List D) → M D
  | some (ks, ds) => M.guard (decide ks.Nodup && decide (ks.length ≤ 15)) (M.ret (.dct ks ds))
  | none => M.fail
def eDisp (prs : List ((Env → M D) × (Env → M D))) : Env → M D := fun ρ => M.bind (prsM prs ρ) fun l => eDispK (dispD l)
section
variable {X : Cx} {pos : Pos}
theorem d_disp {keys : List (Option Expr)} {values : List Expr} {prs : List ((Env → M D) × (Env → M D))} (h : PPs X pos keys values (prs.map fun p => (tF X.K p.1, tF X.K p.2))) (hall : keys.all (·.isSome) = true) (hl : keys.length = values.length) (h0 : keys ≠ []) (h15 : keys.length ≤ 15) :
    DE X (.Dict keys values pos) (eDisp prs) := by
  refine PEimp (pe_disp h hall hl h0 h15) ?_
  rintro σ H Q ⟨ρ, G, b, d, b', rs, fz, ob, e, q⟩
  obtain ⟨l, b1, e1, e2⟩ := M.bind_some e
  intro p hp
  have m0 : Nxt G H b G (upd H p (.dK [])) b := Nxt.newH fz ob hp
  refine tPairs_f rs m0.fz m0.bag e1 fun vs G1 H1 n1 r1 => ?_
  have nb : b.at ≠ some p := bag_ne ob hp
  have gp1 : G1 p = none := n1.new p _ upd_same (gnone fz hp)
  have hp1 : H1 p = some (.dK []) := n1.keep p _ upd_same nb
  refine ⟨hp1, ?_⟩
  cases ed : dispD l with
  | none => rw [ed] at e2; cases e2
  | some kd =>
    obtain ⟨ks, ds⟩ := kd
    rw [ed] at e2
    obtain ⟨c, e3⟩ := M.guard_some e2
    cases e3
    rw [Bool.and_eq_true] at c
    have c1 := of_decide_eq_true c.1
    have c2 := of_decide_eq_true c.2
    obtain ⟨us, rfl, hk, hr⟩ := dispD_of r1 ed
    have hz : (ks.zip us).map (·.1) = ks := by rw [List.map_fst_zip]; omega
    refine ⟨ks.zip us, rfl, by rw [List.length_zip]; omega, ?_⟩
    rw [mergeK_new _ [] (by rw [List.nil_append, hz]; exact c1), List.nil_append]
    have m1 : Nxt G H b G1 (upd H1 p (.dK (ks.zip us))) b' := (m0.trans n1).mut ob hp gp1
    have m2 := m1.freeze ob hp gp1 upd_same
    exact q _ _ _ m2 (.dct upd_same hk (hr.mono (upd_more gp1)))
end
theorem q_disp (prs : List ((Env → M D) × (Env → M D))) (ρ : Env) : eDisp prs ρ = bnd (prsM prs ρ) fun l => eDispK (dispD l) := rfl
theorem q_prs0 (ρ : Env) : prsM [] ρ = M.ret [] := rfl
theorem q_prs1 (f g : Env → M D) (r : List ((Env → M D) × (Env → M D))) (ρ : Env) : prsM ((f, g) :: r) ρ = bnd (f ρ) fun x => bnd (g ρ) fun y => bnd (prsM r ρ) fun l => M.ret ((x, y) :: l) := rfl
/-! ### keys that are tuples -/
def tputK (ρ : Env2) (j : Nat) (k : Option (List Key)) (d : D) : Option (Option Slot) → M Out
  | some (some (.tr (.t ks os))) => match k with
    | some k => M.guard (decide (ks.length < sizeLine)) (M.ret (.nx (ρ.set j (some (.tr (.t (setKs ks k) (setVs ks os k (.v d))))))))
    | none => M.fail
  | _ => M.fail
def tputM (j : Nat) (ms : List Nat) (fv : Env → M D) (fk : Env → M (List D)) (ρ : Env2) : M Out := M.bind (fv (view ms ρ)) fun d => M.bind (fk (view ms (keepIf d.flat ms ρ))) fun ys => M.guard (szL ys) (tputK (keepIf d.flat ms ρ) j (keysD ys) d (keepIf d.flat ms ρ)[j]?)
section
variable {X : Cx} {pos : Pos}
theorem s_tput (j : Nat) (ms : List Nat) {x : Str} {es : List Expr} {kk : Nat} {e : Expr} {fv : Env → M D} {fk : Env → M (List D)} {p pos' p2 : Pos} (hu : X.A.units + 64 < cLine) (hi : DA X es fk) (he : DE X e fv) (hN : X.N[j]? = some x := by rfl) (hv : Vis X.env.scope x := by first | exact Or.inl rfl | exact Or.inr (Or.inl rfl) | exact Or.inr (Or.inr rfl))
    (hd : (x == ("__debug__" : Str)) = false := by decide) (hcd : (x == ("__classdict__" : Str)) = false := by decide) (hs : swapsWith e (some (.Subscript (.Name x p) (.Tuple es kk p2) pos')) pos.line X.env = pure false := by rfl) :
    DS X (.Assign [.Subscript (.Name x p) (.Tuple es kk p2) pos'] e pos) (tputM j ms fv fk) := by
  refine PSimp (ps_dput (by omega) (pe_var hN hv hd hcd) (pe_tup hi) he hs) ?_
  rintro D σ H ⟨E, ρ, G, b, o, b', I, e, q⟩
  obtain ⟨d, b1, e1, e2⟩ := M.bind_some e
  obtain ⟨ys, b2, e2, e3⟩ := M.bind_some e2
  obtain ⟨hsz, e3⟩ := M.guard_some e3
  refine ⟨_, _, b, d, b1, I.rs ms, I.gp2 ms, I.gpb ms, e1, fun v G1 H1 n1 r => ?_⟩
  obtain ⟨G2, I2, r2⟩ := I.after n1 r
  obtain ⟨ks, os, ej⟩ : ∃ ks os, (keepIf d.flat ms ρ)[j]? = some (some (.tr (.t ks os))) := by
    cases ej : (keepIf d.flat ms ρ)[j]? with
    | none => rw [ej] at e3; cases e3
    | some s => cases s with
      | none => rw [ej] at e3; cases e3
      | some s => cases s with
        | val _ => rw [ej] at e3; cases e3
        | own _ => rw [ej] at e3; cases e3
        | tr o => cases o with
          | t ks os => exact ⟨ks, os, rfl⟩
          | v _ => rw [ej] at e3; cases e3
          | l _ => rw [ej] at e3; cases e3
          | k _ _ => rw [ej] at e3; cases e3
  rw [ej] at e3
  cases ek : keysD ys with
  | none => rw [ek] at e3; cases e3
  | some k =>
    rw [ek] at e3
    obtain ⟨hz, e4⟩ := M.guard_some e3
    cases e4
    obtain ⟨fp0, w0⟩ := I2.own
    obtain ⟨u, hu1, _⟩ := w0.at_ j _ _ ej rfl
    refine ⟨u, hu1, ?_⟩
    refine ⟨_, _, b1, ys, b', I2.rs ms, I2.gp2 ms, I2.gpb ms, e2, fun vs3 G3 H3 n3 r3 => ⟨by rw [r3.length]; exact of_decide_eq_true hsz, fun pt hpt => ?_⟩⟩
    have I3 := I2.flat (n3.trans (Nxt.newH (o := .tup vs3) n3.fz n3.bag hpt))
    obtain ⟨fp, w⟩ := I3.own
    obtain ⟨u', hu2, ow⟩ := w.at_ j _ _ ej rfl
    rw [hu1] at hu2
    cases hu2
    generalize hf : fp j = fj at ow
    cases ow with
    | @t pa _ vs _ fpv hpa hl rl =>
      have hky := keysD_of r3 ek
      have hlv : vs.length = os.length := rl.length
      refine ⟨pa, _, rfl, .inr ⟨_, k, pt, hpa, rfl, by rw [upd_same, hky], ?_, rfl⟩, ?_⟩
      · rw [List.length_zip, ← hl, Nat.min_self]
        exact of_decide_eq_true hz
      · rw [putK_zip ks vs k v hl]
        have hnd := w.nd j
        rw [hf, List.nodup_cons] at hnd
        obtain ⟨fq, o1, o2⟩ := OwL.setVs (ks := ks) (k := k) r2 rl
        refine q σ G2 _ (I3.retree (s' := .tr (.t (setKs ks k) (setVs ks os k (.v d)))) (fq := pa :: fq) ej rfl hu1 w (.t upd_same (setK_len ks vs k v hl) (o1.mono (fun _ _ h => h) fun a ha => upd_ne fun z => hnd.1 (by rw [← z]; exact o2.subset ha))) ?_ (fun a ha => ?_) (fun a hf' _ => upd_ne fun z => hf' (by rw [z, hf]; exact List.mem_cons_self)))
        · rw [List.nodup_cons]
          exact ⟨fun h => hnd.1 (o2.subset h), hnd.2.sublist o2⟩
        · rcases List.mem_cons.mp ha with rfl | ha
          · exact .inl ⟨by rw [hf]; exact List.mem_cons_self, by rw [upd_same]; exact fun z => nomatch z⟩
          · have hm : a ∈ fp j := by rw [hf]; exact List.mem_cons_of_mem _ (o2.subset ha)
            refine .inl ⟨hm, ?_⟩
            rw [upd_ne fun z => hnd.1 (by rw [← z]; exact o2.subset ha)]
            exact (w.ok j a hm).2.2.2
def inTK (neg : Bool) (k : Option (List Key)) : D → M Bool
  | .dcT ks ds => match k with
    | some k => M.ret (if neg then !(getK ks ds k).isSome else (getK ks ds k).isSome)
    | none => M.fail
  | _ => M.fail
def tInT (neg : Bool) (fa : Env → M (List D)) (g : Env → M D) : Env → M Bool := fun ρ => M.bind (fa ρ) fun xs => M.guard (szL xs) (M.bind (g ρ) fun y => inTK neg (keysD xs) y)
theorem inT_f {K : PySem.W.Frag} {neg : Bool} {fa : Env → M (List D)} {g : Env → M D} {σ : L2.St} {H : Hp} {Q : Bool → Hp → Prop} (h : tFT K (tInT neg fa g) σ H Q) :
    tFA K fa σ H fun vs H1 => vs.length ≤ sizeLine ∧ ∀ p, H1 p = none → tF K g σ (upd H1 p (.tup vs)) fun x H2 => ∃ a o, x = .ref a ∧ DGet H2 a (.ref p) o ∧ Q (if neg then !o.isSome else o.isSome) H2 := by
  obtain ⟨ρ, G, b, d, b', rs, fz, ob, e, q⟩ := h
  obtain ⟨xs, b1, e1, e2⟩ := M.bind_some e
  obtain ⟨hz, e2⟩ := M.guard_some e2
  obtain ⟨y, b2, e2, e3⟩ := M.bind_some e2
  refine ⟨ρ, G, b, xs, b1, rs, fz, ob, e1, fun vs G1 H1 n1 r1 => ⟨by rw [r1.length]; exact of_decide_eq_true hz, fun p hp => ?_⟩⟩
  have m := Nxt.newF (o := .tup vs) n1.fz n1.bag hp
  refine ⟨ρ, _, b1, y, b2, (rs.mono n1.gg).mono m.gg, m.fz, m.bag, e2, fun x G2 H2 n2 r2 => ?_⟩
  cases y with
  | dcT ks ds =>
    cases ek : keysD xs with
    | none => rw [ek] at e3; cases e3
    | some k =>
      rw [ek] at e3
      cases e3
      cases r2 with
      | @dcT pa _ us _ hg hl rl =>
        have hk := keysD_of r1 ek
        refine ⟨pa, _, rfl, .inr ⟨_, k, p, .inl (n2.fz _ _ hg), rfl, by rw [n2.fz p _ (n2.gg p _ upd_same), hk], rfl⟩, ?_⟩
        obtain ⟨k1, k2⟩ := RpL.getK k (ks := ks) rl
        rw [valV_zip]
        have es : (getK ks us k).isSome = (getK ks ds k).isSome := by
          cases ed : getK ks ds k with
          | none => rw [k2 ed]; rfl
          | some z => obtain ⟨u, h1, _⟩ := k1 z ed; rw [h1]; rfl
        rw [es]
        exact q G2 H2 ((n1.trans m).trans n2)
  | _ => cases e3
variable {es : List Expr} {b : Expr} {kk : Nat} {p2 : Pos} {fa : Env → M (List D)} {g : Env → M D}
theorem t_inT (hu : X.A.units + 64 < cLine) (ha : DA X es fa) (hb : DE X b g) (hm : behindInMarks .In b = false := by rfl) : DT X (.Compare (.Tuple es kk p2) [.In] [b] pos) (tInT false fa g) := by
  refine PTimp (pt_cmp (pc_din (by omega) (pe_tup ha) hb) hm) ?_
  intro σ H Q h
  obtain ⟨ρ, G, b, ds, b', rs, fz, ob, e, q⟩ := inT_f h
  exact ⟨ρ, G, b, ds, b', rs, fz, ob, e, fun vs G' H' n r => ⟨(q vs G' H' n r).1, fun p hp => by
    obtain ⟨ρ2, G2, c, d2, c', rs2, fz2, ob2, e2, q2⟩ := (q vs G' H' n r).2 p hp
    exact ⟨ρ2, G2, c, d2, c', rs2, fz2, ob2, e2, fun x G3 H3 n3 r3 => by
      obtain ⟨a, o, h1, h2, h3⟩ := q2 x G3 H3 n3 r3
      exact ⟨a, o, h1, h2, _, rfl, h3⟩⟩⟩⟩
theorem t_notInT (hu : X.A.units + 64 < cLine) (ha : DA X es fa) (hb : DE X b g) (hm : behindInMarks .NotIn b = false := by rfl) : DT X (.Compare (.Tuple es kk p2) [.NotIn] [b] pos) (tInT true fa g) := by
  refine PTimp (pt_cmp (pc_dnotin (by omega) (pe_tup ha) hb) hm) ?_
  intro σ H Q h
  obtain ⟨ρ, G, b, ds, b', rs, fz, ob, e, q⟩ := inT_f h
  exact ⟨ρ, G, b, ds, b', rs, fz, ob, e, fun vs G' H' n r => ⟨(q vs G' H' n r).1, fun p hp => by
    obtain ⟨ρ2, G2, c, d2, c', rs2, fz2, ob2, e2, q2⟩ := (q vs G' H' n r).2 p hp
    exact ⟨ρ2, G2, c, d2, c', rs2, fz2, ob2, e2, fun x G3 H3 n3 r3 => by
      obtain ⟨a, o, h1, h2, h3⟩ := q2 x G3 H3 n3 r3
      exact ⟨a, o, h1, h2, _, rfl, h3⟩⟩⟩⟩
end
end DL
set_option Elab.async false
set_option maxRecDepth 100000
set_option autoImplicit false
set_option linter.unusedVariables false
set_option maxHeartbeats 4000000
namespace DL
open PySem L2 PySem.Spec PyProof.Rows
/-! ### dict comprehensions -/
def dcM (bs : D → Option (List (Nat × D))) (c : Env → M Bool) (ek ev : Env → M D) (ρ : Env) : List D → List Key → List D → M D
  | [], ks, ds => M.ret (.dct ks ds)
  | x :: xs, ks, ds => match bs x with
    | none => M.fail
    | some l => M.bind (c (setAllD ρ l)) fun k => if k = true then M.bind (ek (setAllD ρ l)) fun y => M.bind (ev (setAllD ρ l)) fun z => match keyD y with
        | some kk => M.guard (decide (ks.length < sizeLine)) (dcM bs c ek ev ρ xs (setKs ks kk) (setVs ks ds kk z))
        | none => M.fail
      else dcM bs c ek ev ρ xs ks ds
theorem dcM_dct {bs : D → Option (List (Nat × D))} {c : Env → M Bool} {ek ev : Env → M D} {ρ : Env} : ∀ {xs : List D} {ks : List Key} {ds : List D} {b b' : Bs} {d : D}, dcM bs c ek ev ρ xs ks ds b = some (d, b') → True := fun _ => trivial
theorem dc_f {K : PySem.W.Frag} {gi : Env → M (List D)} {g : TG} {bs : D → Option (List (Nat × D))} {is vs : List Nat} {c : Env → M Bool} {ek ev : Env → M D} (tg : TgOk K g bs is) (his : ∀ i ∈ is, i ∈ vs) :
    ∀ σ H Q, tF K (fun ρ => M.bind (gi ρ) fun xs => dcM bs c ek ev (wipeD ρ vs) xs [] []) σ H Q → tDc (iF K gi) g (tFT K c) (tF K ek) (tF K ev) vs σ H Q := by
  rintro σ H Q ⟨ρ, G, b, d, b', rs, fz, ob, e0, q⟩
  obtain ⟨xs, b1, e1, e2⟩ := M.bind_some e0
  refine ⟨ρ, G, b, xs, b1, rs, fz, ob, e1, fun J G1 H1 n1 yl Dd hD => ?_⟩
  have m0 : Nxt G1 H1 b1 G1 (upd H1 Dd (.dK [])) b1 := Nxt.newH n1.fz n1.bag hD
  refine ⟨fun i m H2 => m = xs.length - i ∧ i ≤ xs.length ∧ ∃ G2 bb ks accv acc, Nxt G H b G2 H2 bb ∧ Same G1 G2 ∧ G2 Dd = none ∧ H2 Dd = some (.dK (ks.zip accv)) ∧ ks.length = accv.length ∧ RpL K G2 accv acc ∧ dcM bs c ek ev (wipeD ρ vs) (xs.drop i) ks acc bb = some (d, b'),
    ⟨xs.length, by simp, Nat.zero_le _, G1, b1, [], [], [], n1.trans m0, fun _ _ h => h, gnone n1.fz hD, upd_same, rfl, .nil, by simpa using e2⟩, ?_⟩
  rintro i m H2 ⟨rfl, hi, G2, bb, ks, accv, acc, n2, s12, gD, hDd, hkl, ra, ec⟩
  have Y := yl i G2 H2 bb s12 n2.fz n2.bag
  by_cases hlt : i < xs.length
  · have hx : xs[i]? = some xs[i] := List.getElem?_eq_getElem hlt
    have hdr : xs.drop i = xs[i] :: xs.drop (i + 1) := List.drop_eq_getElem_cons hlt
    obtain ⟨hgo, hy⟩ := Y.1 _ hx
    refine .inr ⟨hgo, fun H3 => ∃ G2 bb ks accv acc, Nxt G H b G2 H3 bb ∧ Same G1 G2 ∧ G2 Dd = none ∧ H3 Dd = some (.dK (ks.zip accv)) ∧ ks.length = accv.length ∧ RpL K G2 accv acc ∧ dcM bs c ek ev (wipeD ρ vs) (xs.drop (i + 1)) ks acc bb = some (d, b'),
      fun H' h' => ⟨xs.length - (i + 1), by omega, rfl, hlt, h'⟩, fun x H3 hyl => ?_⟩
    obtain ⟨G3, n3, rx⟩ := hy x H3 hyl
    rw [hdr] at ec
    unfold dcM at ec
    cases eb : bs xs[i] with
    | none => rw [eb] at ec; cases ec
    | some l =>
      rw [eb] at ec
      obtain ⟨lv, pl, il, gq⟩ := tg G3 x xs[i] l rx eb
      refine gq H3 _ _ n3.fz ?_
      have rsb : RS K G3 (setAll (wipe σ vs) lv) (setAllD (wipeD ρ vs) l) := by
        refine RS.setAll pl (RS.wipe (rs.mono ?_) vs)
        exact fun a o h => n3.gg a o (n2.gg a o h)
      refine ⟨?_, ?_⟩
      · rw [wipe_setAll fun p hp => his _ (il p hp)]
        exact wipe_wipe fun v hv => hv
      · obtain ⟨k, b3, eqk, ec⟩ := M.bind_some ec
        have gD3 : G3 Dd = none := n3.new Dd _ hDd gD
        have nb : bb.at ≠ some Dd := by rw [← Bs.like_at n2.like]; exact bag_ne ob (n1.free hD)
        have hD3 : H3 Dd = some (.dK (ks.zip accv)) := n3.keep Dd _ hDd nb
        refine ⟨_, G3, bb, k, b3, rsb, n3.fz, n3.bag, eqk, fun G4 H4 n4 => ?_⟩
        have gD4 : G4 Dd = none := n4.new Dd _ hD3 gD3
        have hD4 : H4 Dd = some (.dK (ks.zip accv)) := n4.keep Dd _ hD3 nb
        have nb3 : b3.at ≠ some Dd := by rw [← Bs.like_at n4.like]; exact nb
        cases k with
        | false =>
          refine iteF ⟨G4, b3, ks, accv, acc, (n2.trans n3).trans n4, fun a o h => n4.gg a o (n3.gg a o (s12 a o h)), gD4, hD4, hkl, (ra.mono n3.gg).mono n4.gg, ec⟩
        | true =>
          refine iteT ?_
          rw [if_pos rfl] at ec
          obtain ⟨y, b4, ey, ec⟩ := M.bind_some ec
          obtain ⟨z, b5, ez, ec⟩ := M.bind_some ec
          refine ⟨_, G4, b3, y, b4, rsb.mono n4.gg, n4.fz, n4.bag, ey, fun v G5 H5 n5 rv => ?_⟩
          have gD5 : G5 Dd = none := n5.new Dd _ hD4 gD4
          have hD5 : H5 Dd = some (.dK (ks.zip accv)) := n5.keep Dd _ hD4 nb3
          have nb4 : b4.at ≠ some Dd := by rw [← Bs.like_at n5.like]; exact nb3
          refine ⟨_, G5, b4, z, b5, (rsb.mono n4.gg).mono n5.gg, n5.fz, n5.bag, ez, fun v2 G6 H6 n6 rv2 => ?_⟩
          have gD6 : G6 Dd = none := n6.new Dd _ hD5 gD5
          have hD6 : H6 Dd = some (.dK (ks.zip accv)) := n6.keep Dd _ hD5 nb4
          cases eky : keyD y with
          | none => rw [eky] at ec; cases ec
          | some kk =>
            rw [eky] at ec
            obtain ⟨hz, ec⟩ := M.guard_some ec
            have hz := of_decide_eq_true hz
            have hk := keyD_of rv eky
            subst hk
            refine ⟨ks.zip accv, kk, rfl, hD6, by rw [List.length_zip, ← hkl, Nat.min_self]; exact hz, ?_⟩
            rw [putK_zip ks accv kk v2 hkl]
            have ra6 := (((ra.mono n3.gg).mono n4.gg).mono n5.gg).mono n6.gg
            refine ⟨G6, b5, DL.setKs ks kk, DL.setVs ks accv kk v2, DL.setVs ks acc kk z, ((((n2.trans n3).trans n4).trans n5).trans n6).mut ob (n1.free hD) gD6, fun a o h => n6.gg a o (n5.gg a o (n4.gg a o (n3.gg a o (s12 a o h)))), gD6, upd_same, setK_len ks accv kk v2 hkl, RpL.setVs rv2 ra6, ec⟩
  · have e : i = xs.length := by omega
    subst e
    refine .inl ⟨Y.2 (Nat.le_refl _), ?_⟩
    have hr : xs.drop xs.length = [] := by simp
    rw [hr] at ec
    cases ec
    have m2 := n2.freeze ob (n1.free hD) gD hDd
    exact q _ _ _ m2 (.dct upd_same hkl (ra.mono (upd_more gD)))
def eDc (vs : List Nat) (gi : Env → M (List D)) (bs : D → Option (List (Nat × D))) (c : Env → M Bool) (ek ev : Env → M D) : Env → M D := fun ρ => M.bind (gi ρ) fun xs => dcM bs c ek ev (wipeD ρ vs) xs [] []
theorem d_dc {X : Cx} {kx vx tg iter : Expr} {ifs : List Expr} {scope : Scope} {own : List (Str × Nat)} {pos : Pos} {gi : Env → M (List D)} {g : TG} {bs : D → Option (List (Nat × D))} {is : List Nat} {c : Env → M Bool} {ek ev : Env → M D}
    (hc : X.calm = true) (hN : X.N.Nodup) (hi : DI X tg iter gi) (ok : BlkOk X.N X.env.scope scope own) (ht : TgOk X.K g bs is) (his : is.all (fun i => (own.map (·.2)).contains i) = true)
    (hg : ∀ (s : Shared) (H : Hp) (C : Addr) (cl : List (Str × Addr)) (fp : List Addr), PG (X.blk s H scope (compEnvC scope cl C X.env) fp) tg g) (htt : ∀ (s : Shared) (H : Hp) (C : Addr) (cl : List (Str × Addr)) (fp : List Addr), DTs (X.blk s H scope (compEnvC scope cl C X.env) fp) ifs c)
    (hk : ∀ (s : Shared) (H : Hp) (C : Addr) (cl : List (Str × Addr)) (fp : List Addr), DE (X.blk s H scope (compEnvC scope cl C X.env) fp) kx ek) (he : ∀ (s : Shared) (H : Hp) (C : Addr) (cl : List (Str × Addr)) (fp : List Addr), DE (X.blk s H scope (compEnvC scope cl C X.env) fp) vx ev) (hs : ∀ x, foldedSetIterable iter X.env x = pure x := by intro _; rfl) :
    DE X (.DictComp kx vx [⟨tg, iter, ifs, 0⟩] scope pos) (eDc (own.map (·.2)) gi bs c ek ev) :=
  PEimp (pe_dc hc hN hi ok hg htt hk he hs) (dc_f ht fun i hi => by
    have := List.all_eq_true.mp his i hi
    simpa using this)
theorem q_dc (vs : List Nat) (gi : Env → M (List D)) (bs : D → Option (List (Nat × D))) (c : Env → M Bool) (ek ev : Env → M D) (ρ : Env) : eDc vs gi bs c ek ev ρ = bnd (gi ρ) fun xs => dcM bs c ek ev (wipeD ρ vs) xs [] [] := rfl
/-! ### d[(a, b)] -/
def getTK (k : Option (List Key)) : D → M D
  | .dcT ks ds => match k with
    | some k => M.of (getK ks ds k)
    | none => M.fail
  | _ => M.fail
def eGetT (g : Env → M D) (fa : Env → M (List D)) : Env → M D := fun ρ => M.bind (g ρ) fun y => M.bind (fa ρ) fun xs => M.guard (szL xs) (getTK (keysD xs) y)
theorem d_getT {X : Cx} {pos p2 : Pos} {es : List Expr} {a : Expr} {kk : Nat} {fa : Env → M (List D)} {g : Env → M D} (hu : X.A.units + 64 < cLine) (hb : DE X a g) (ha : DA X es fa) (hs : NoSl (.Tuple es kk p2) := by exact fun _ _ => rfl) : DE X (.Subscript a (.Tuple es kk p2) pos) (eGetT g fa) := by
  refine PEimp (pe_dget (by omega) hb (pe_tup ha) hs) ?_
  rintro σ H Q ⟨ρ, G, b, d, b', rs, fz, ob, e, q⟩
  obtain ⟨y, b1, e1, e2⟩ := M.bind_some e
  obtain ⟨xs, b2, e2, e3⟩ := M.bind_some e2
  obtain ⟨hz, e3⟩ := M.guard_some e3
  refine ⟨ρ, G, b, y, b1, rs, fz, ob, e1, fun x G1 H1 n1 r1 => ?_⟩
  refine ⟨ρ, G1, b1, xs, b2, rs.mono n1.gg, n1.fz, n1.bag, e2, fun vs G2 H2 n2 r2 => ⟨by rw [r2.length]; exact of_decide_eq_true hz, fun p hp => ?_⟩⟩
  have m := Nxt.newF (o := .tup vs) n2.fz n2.bag hp
  cases y with
  | dcT ks ds =>
    cases ek : keysD xs with
    | none => rw [ek] at e3; cases e3
    | some k =>
      rw [ek] at e3
      have e3 : M.of (getK ks ds k) b2 = some (d, b') := e3
      obtain ⟨h1, rfl⟩ := M.of_some' e3
      cases r1 with
      | @dcT pa _ us _ hg hl rl =>
        have hk := keysD_of r2 ek
        obtain ⟨k1, k2⟩ := RpL.getK k (ks := ks) rl
        obtain ⟨u, h2, h3⟩ := k1 d h1
        refine ⟨pa, u, rfl, .inr ⟨_, k, p, .inl (m.fz _ _ (m.gg _ _ (n2.gg _ _ hg))), rfl, by rw [upd_same, hk], by rw [valV_zip, h2]⟩, ?_⟩
        exact q u _ _ ((n1.trans n2).trans m) ((h3.mono n2.gg).mono m.gg)
  | _ => cases e3
theorem q_tput (ρ2 : Env2) (ms : List Nat) (j : Nat) (fv : Env → M D) (fk : Env → M (List D)) : tputM j ms fv fk ρ2 = bnd (fv (view ms ρ2)) fun d => bnd (fk (view ms (keepIf d.flat ms ρ2))) fun ys => M.guard (szL ys) (tputK (keepIf d.flat ms ρ2) j (keysD ys) d (keepIf d.flat ms ρ2)[j]?) := rfl
theorem q_tputK {ρ2 : Env2} {j : Nat} {k : List Key} {d : D} {ks : List (List Key)} {os : List O} (h : ks.length < 16777216) : tputK ρ2 j (some k) d (some (some (.tr (.t ks os)))) = M.ret (.nx (ρ2.set j (some (.tr (.t (setKs ks k) (setVs ks os k (.v d))))))) := M.guard_of (decide_eq_true h)
theorem q_inT (ρ : Env) (neg : Bool) (fa : Env → M (List D)) (g : Env → M D) : tInT neg fa g ρ = bnd (fa ρ) fun xs => M.guard (szL xs) (bnd (g ρ) fun y => inTK neg (keysD xs) y) := rfl
theorem q_inTK (neg : Bool) (k : List Key) (ks : List (List Key)) (ds : List D) : inTK neg (some k) (.dcT ks ds) = M.ret (if neg then !(getK ks ds k).isSome else (getK ks ds k).isSome) := rfl
theorem q_getT (ρ : Env) (g : Env → M D) (fa : Env → M (List D)) : eGetT g fa ρ = bnd (g ρ) fun y => bnd (fa ρ) fun xs => M.guard (szL xs) (getTK (keysD xs) y) := rfl
theorem q_getTK (k : List Key) (ks : List (List Key)) (ds : List D) : getTK (some k) (.dcT ks ds) = M.of (getK ks ds k) := rfl
theorem q_keysI1 (i : Int) (r : List D) (ks : List Key) (h : keysD r = some ks) : keysD (.int i :: r) = some (.inl i :: ks) := by
  unfold keysD
  rw [h]; rfl
theorem q_keys2s (x y : List Nat) : keysD [.str x, .str y] = some [kS x, kS y] := rfl
theorem q_keys2i (x : List Nat) (i : Int) : keysD [.str x, .int i] = some [kS x, .inl i] := rfl
theorem q_keys2ii (i j : Int) : keysD [.int i, .int j] = some [.inl i, .inl j] := rfl
end DL
set_option Elab.async false
set_option maxRecDepth 100000
set_option autoImplicit false
set_option linter.unusedVariables false
set_option maxHeartbeats 4000000
namespace DL
open PySem L2 PySem.Spec PyProof.Rows
/-! ### != by an own __eq__ -/
section
variable {M : Model} {prog : Program} {w : World} {A : Around} {E : Value → Shared → Prop} {s : Shared} {K : PySem.W.Frag} {x C f L : Addr} {ox : Obj} {od : Option Obj} {h₀ : Heap} {m : Str → Option Value} {b tb : Value}
theorem ifBound_objNe {args : List Value} {Q : Option Value → Shared → Prop} (X : K.In s.heap) (I : PySem.W.InstAt s.heap x ox C od) (hs : PySem.W.findIn K (.ref C) "__ne__" = some (some (.builtin "object.__ne__")))
    (h : wpAny M A (call (.builtin "object.__ne__") (.ref x :: args)) (fun v => Q (some v)) E s) : wpAny M A (callSpecialIfBound? (.ref x) "__ne__" args) Q E s := by
  simp only [callSpecialIfBound?, bindSpecialIfBound?]
  refine wpAny_holding (wpAny_bind (wpAny_bind (wpAny_bind (I.type.here ((PySem.W.looks_findIn X hs).here ?_)))))
  refine wpAny_bind (wpAny_askSetting (wpAny_ite ?_))
  have fin : wpAny M A (call (.builtin "object.__ne__") ([.ref x] ++ args) >>= fun v => pure (some v)) Q E s := wpAny_bind (wpAny_mono h (fun v s' h' => wpAny_pure h') fun _ _ h' => h')
  split
  · exact wpAny_bind (wpAny_of_eq (F.cmp_object.ne.bind _) (wpAny_pure (by exact fin)))
  · exact wpAny_tryCatch (wpAny_bind (wpAny_of_eq (F.cmp_object.ne.bind _) (wpAny_pure (by exact fin))))
theorem objNe_entry {Q : PySem.Fin → Shared → Prop} (hu : A.units < cLine) (X : K.In s.heap) (I : PySem.W.InstAt s.heap x ox C od) (hs : PySem.W.findIn K (.ref C) "__eq__" = some (some (.ref f))) (hf : PySem.W.isFn K (.ref f) = true)
    (hcall : wpAny (model prog w) A (call (.ref f) [.ref x, b]) (fun v s' => ∃ c, v = .bool c ∧ Q (.done (.ret (.bool (!c)))) s') E s) :
    wpAny (model prog w) A (Builtin.«object.__ne__» ⟨[.ref x, b], []⟩) Q E s := by
  unfold Builtin.«object.__ne__»
  repeat (first
    | with_reducible refine wpAny_cRoomFor hu ?_
    | (refine wpAny_bind (m := callSpecialIfBound? (.ref x) (Str.ofString "__eq__") [b])
        (PySem.W.ifBound_K X I hs hf (wpAny_mono hcall (fun r s' hr => by
          obtain ⟨c, rfl, hq⟩ := hr
          repeat (first | exact hq | exact wpAny_pure hq | exact wpAny_truthy_bool hq | (refine wpAny_bind (m := truthy (.bool _)) (wpAny_truthy_bool ?_)) | wp_step)) fun _ _ e => e)))
    | wp_step)
theorem cmp_Ne {Q : Value → Shared → Prop} (hu : A.units + 1 < cLine) (X : K.In s.heap) (I : PySem.W.InstAt s.heap x ox C od) (hb : PySem.W.Looks (model prog w) s.heap (typeOf b) tb) (hn : PySem.W.notFirst K C tb = true) (hm : PySem.W.mroIn K C (.type "object") = some true)
    (hne : PySem.W.findIn K (.ref C) "__ne__" = some (some (.builtin "object.__ne__"))) (hs : PySem.W.findIn K (.ref C) "__eq__" = some (some (.ref f))) (hf : PySem.W.isFn K (.ref f) = true)
    (h : wpAny (model prog w) A.in1 (call (.ref f) [.ref x, b]) (fun v s' => ∃ c, v = .bool c ∧ Q (.bool (!c)) s') E s) : wpAny (model prog w) A (richCompare .NotEq (.ref x) b) Q E s := by
  have one : wpAny (model prog w) A (tryCompare (.ref x) "__ne__" b) (fun r s' => ∃ v, r = some v ∧ Q v s') E s := by
    unfold tryCompare
    refine wpAny_bind (ifBound_objNe X I hne (wpAny_call (codeAny_call_builtin F.cmp_object.ne.plain F.cmpEntry_ne (PySem.W.check_slot F.cmpKind_ne F.cmpSplit_ne (I.type.andThen (PySem.W.looks_mroIn X hm)) (F.cmpArgs_ne _ _) (objNe_entry (A := A.in1) hu X I hs hf (wpAny_mono h (fun v s' hv => ?_) fun _ _ e => e))))))
    obtain ⟨c, rfl, hq⟩ := hv
    exact ⟨c, rfl, wpAny_pure ⟨_, rfl, hq⟩⟩
  unfold richCompare
  simp only [oneThing_ref, cmpInfo_NotEq]
  refine wpAny_holding (wpAny_bind (wpAny_cRoomFor (Nat.lt_of_succ_lt hu) ?_))
  refine wpAny_bind (I.type.here (wpAny_bind (hb.here ?_)))
  split
  · rename_i q
    have e : PySem.W.subIn K tb (.ref C) = some false := by
      rcases Bool.or_eq_true_iff.mp hn with e | e
      · rw [beq_iff_eq.mp e] at q; simp at q
      · exact beq_iff_eq.mp e
    refine wpAny_bind ((PySem.W.looks_subIn X e).here ?_)
    simp only [Bool.false_eq_true, if_false]
    refine wpAny_bind (wpAny_mono one (fun r s' z => ?_) fun _ _ e => e)
    obtain ⟨v, rfl, hq⟩ := z
    exact wpAny_pure hq
  · refine wpAny_bind (wpAny_pure ?_)
    simp only [Bool.false_eq_true, if_false]
    refine wpAny_bind (wpAny_mono one (fun r s' z => ?_) fun _ _ e => e)
    obtain ⟨v, rfl, hq⟩ := z
    exact wpAny_pure hq
end
section
variable {X : Cx} {CX : CXT} {C g : Addr} {n : Nat} {sp : Sp} {E : XK}
def rOwnNe (K : PySem.W.Frag) (C : Addr) (sp : Sp) (E : XK) : R2 := fun x y H Q => ∃ a dx vs b C' dy ws, x = .ref a ∧ y = .ref b ∧ SlX.Slt H a C dx vs ∧ SlX.Slt H b C' dy ws ∧ PySem.W.notFirst K C (.ref C') = true ∧ sp [x, y] H (fun z H' => ∃ c, z = .bl c ∧ Q (.bl (!c)) H') E
theorem op_ownNe (hm : PySem.W.mroIn X.K C (.type "object") = some true) (hne : PySem.W.findIn X.K (.ref C) "__ne__" = some (some (.builtin "object.__ne__"))) (hs : PySem.W.findIn X.K (.ref C) "__eq__" = some (some (.ref g))) (hf : PySem.W.isFn X.K (.ref g) = true) (F : FnR X.prog X.w X.K X.mg X.base CX n g sp)
    (hr : Room (n + 1) X.A) (hx : Passes CX X E) : OpR X (compareOp .NotEq) (rOwnNe X.K C sp E) := by
  intro pins s σ H x y v u Q I rx ry h
  obtain ⟨a, dx, vs, b, C', dy, ws, rfl, rfl, ha, hb, hn, q⟩ := h
  cases (show v = Value.ref a from rx)
  cases (show u = Value.ref b from ry)
  obtain ⟨sl, od, _, J, _⟩ := SlX.slt_inst I ha
  obtain ⟨sl', od', _, J', _⟩ := SlX.slt_inst I hb
  show wpAny _ _ (richCompare .NotEq (.ref a) (.ref b)) _ _ _
  have hu : X.A.units + 1 < cLine := by have := hr.un; omega
  refine cmp_Ne (tb := .ref C') hu I.kIn J J'.type hn hm hne hs hf ?_
  refine wpAny_mono (wpAny_call (SlX.run_at (us := [.ref a, .ref b]) (ws := [.ref a, .ref b]) F hr.in1 I.env0.in1 hx I (.cons rfl (.cons rfl .nil)) q)) (fun w s' z => ?_) fun _ _ x => x
  obtain ⟨z', H', I', rz, c, rfl, qz⟩ := z
  cases (show w = Value.bool c from rz)
  exact ⟨c, rfl, .bl (!c), H', I', rfl, qz⟩
end
def notM (m : M D) : M D := M.bind m fun x => M.bind (asB x) fun c => M.ret (.bl (!c))
def neC (c : Nat) (R : List D → M D) (x y : D) : M D := M.guard (isC c x && isC c y) (notM (R [x, y]))
section
variable {X : Cx} {a b e : Expr} {pos p p2 : Pos} {c : Nat} {C g : Addr} {k : Nat} {fd : FuncData} {ps : List Str} {f h : Env → M D}
theorem snd_ownNe {K : PySem.W.Frag} {mg : Str → Option Value} {R : List D → M D} (T : ClsAt K mg c C) : SndR K (rOwnNe K C (spD K 2 R) E0) (neC c R) := by
  intro G H b x y dx dy d b' Q rx ry fz ob e q
  obtain ⟨hc, e3⟩ := M.guard_some e
  obtain ⟨z, b1, e3, e4⟩ := M.bind_some e3
  obtain ⟨k, b2, e4, e5⟩ := M.bind_some e4
  obtain ⟨rfl, rfl⟩ := asB_some e4
  cases e5
  rw [Bool.and_eq_true] at hc
  obtain ⟨a, ax, vs, fs, rfl, rfl, hs, rl⟩ := isC_rp T hc.1 rx
  obtain ⟨a2, ax2, vs2, fs2, rfl, rfl, hs2, rl2⟩ := isC_rp T hc.2 ry
  refine ⟨a, ax, _, a2, C, ax2, _, rfl, rfl, slt_mono fz hs, slt_mono fz hs2, by simp [PySem.W.notFirst], G, b, [.obj c fs, .obj c fs2], .bl k, b', .cons rx (.cons ry .nil), rfl, fz, ob, e3, fun v G' H' n r => ?_⟩
  cases r
  exact ⟨k, rfl, q _ G' H' n (.bl _)⟩
theorem d_neO {R : List D → M D} (T : ClsAt X.K X.mg c C) (m : Meth X.K C "__eq__" g) (hm : PySem.W.mroIn X.K C (.type "object") = some true) (hne : PySem.W.findIn X.K (.ref C) "__ne__" = some (some (.builtin "object.__ne__"))) (F : FnOk X.prog X.w X.K X.mg X.base CX0 k g fd ps (spD X.K 2 R)) (bd : Binds X.K fd ps []) (hr : Room (k + 1) X.A) (ha : DE X a f) (hb : DE X b h) :
    DE X (.Compare a [.NotEq] [b] pos) (e2 (neC c R) f h) := d_cmp (op_ownNe (E := E0) hm hne m.at_ m.fn (raw1 F bd) hr pass0) (snd_ownNe T) ha hb (nomark _)
theorem t_neO {R : List D → M D} (T : ClsAt X.K X.mg c C) (m : Meth X.K C "__eq__" g) (hm : PySem.W.mroIn X.K C (.type "object") = some true) (hne : PySem.W.findIn X.K (.ref C) "__ne__" = some (some (.builtin "object.__ne__"))) (F : FnOk X.prog X.w X.K X.mg X.base CX0 k g fd ps (spD X.K 2 R)) (bd : Binds X.K fd ps []) (hr : Room (k + 1) X.A) (ha : DE X a f) (hb : DE X b h) :
    DT X (.Compare a [.NotEq] [b] pos) (t2 (neC c R) f h) := t_cmp (op_ownNe (E := E0) hm hne m.at_ m.fn (raw1 F bd) hr pass0) (snd_ownNe T) ha hb (nomark _)
end
theorem q_neC (c : Nat) (R : List D → M D) (fs gs : List D) : neC c R (.obj c fs) (.obj c gs) = bnd (R [.obj c fs, .obj c gs]) fun x => bnd (asB x) fun k => M.ret (.bl (!k)) := by
  show M.guard ((c == c) && (c == c)) _ = _
  rw [beq_self_eq_true]; rfl
/-! ### x -= e; >>; ** -/
section
variable {X : Cx} {a b : Expr} {pos : Pos} {f g : Env → M D}
def subF : D → D → M D
  | .int i, .int j => M.ret (.int (i - j))
  | _, _ => M.fail
theorem s_augSub (i : Nat) (ms : List Nat) {x : Str} {e : Expr} {g : Env → M D} {pos' : Pos} (hN : X.N.Nodup) (hi : X.N[i]? = some x) (hx : Loc X.env.scope x) (he : DE X e g) (hf : X.fn x = true ∨ X.env.scope.names.lookup x = some .local := by first | exact .inl rfl | exact .inr rfl | assumption) :
    DS X (.AugAssign (.Name x pos') .Sub e pos) (augD subF i ms g) := by
  refine PSimp (ps_aug hN hi hx he ip_sub hf) ?_
  rintro D σ H ⟨E, ρ, G, b, o, b', I, e, q⟩
  unfold augD at e
  cases er : ρ[i]? with
  | none => rw [er] at e; cases e
  | some s => cases s with
    | none => rw [er] at e; cases e
    | some s => cases s with
      | own xs => rw [er] at e; cases e
      | tr o => rw [er] at e; cases e
      | val x =>
        rw [er] at e
        obtain ⟨y, b1, e1, e⟩ := M.bind_some e
        obtain ⟨z, b2, e2, e⟩ := M.bind_some e
        obtain ⟨c, e⟩ := M.guard_some e
        cases e
        obtain ⟨v, hv, rv⟩ := I.val i x er
        refine ⟨v, hv, _, _, b, y, b1, I.rs ms, I.gp2 ms, I.gpb ms, e1, fun w G1 H1 n1 r => ?_⟩
        have I2 := I.flat n1
        cases x <;> first | (cases e2; done) | skip
        cases y <;> first | (cases e2; done) | skip
        cases e2
        cases rv
        cases r
        exact ⟨_, _, rfl, rfl, q _ G H1 (I2.set (.int _))⟩
def shrD : D → D → M D := i2 fun i j => if 0 ≤ j then some (i / 2 ^ j.toNat) else none
theorem d_shr (ha : DE X a f) (hb : DE X b g) : DE X (.BinOp a .RShift b pos) (e2 shrD f g) := d_op op_shr (snd_i2 fun i j z h => by
  split at h
  · cases h; exact ⟨by assumption, rfl⟩
  · cases h) ha hb
theorem q_augSub (i j : Int) : subF (.int i) (.int j) = M.ret (.int (i - j)) := rfl
theorem q_shr {i j : Int} (h : 0 ≤ j) : shrD (.int i) (.int j) = M.ret (.int (i / 2 ^ j.toNat)) := by
  show M.of ((if 0 ≤ j then some (i / 2 ^ j.toNat) else none : Option Int).map D.int) = _
  rw [if_pos h]; rfl
end
end DL
set_option Elab.async false
set_option maxRecDepth 100000
set_option autoImplicit false
set_option linter.unusedVariables false
set_option maxHeartbeats 4000000
namespace DL
open PySem L2 PySem.Spec PyProof.Rows
/-! ### min of texts -/
def minS : List (List Nat) → List Nat
  | [] => []
  | x :: r => r.foldl (fun m y => if y < m then y else m) x
theorem CmpOf.strs_lt {prog : Program} {w : World} {A : Around} {P : Nat → Value → Prop} (val : Nat → Str) (hval : ∀ i v, P i v → ∃ t, v = .str (val i) t) :
    CmpOf prog w A .Lt P (fun i j => decide ((val i).cps.toList < (val j).cps.toList)) := fun i j vi vj s Q E hi hj h => by
  obtain ⟨t, rfl⟩ := hval i vi hi
  obtain ⟨u, rfl⟩ := hval j vj hj
  exact richCompare_gives (op := .Lt) (typeIs_str s _ t) (typeIs_str s _ u) F.slot_str_lt F.entry_str_lt (F.args_str_lt_2 _ _) (gives_str_lt _ _ t u) (fun x => nomatch x) h
theorem best_fold (zs : List (List Nat)) (h : zs ≠ []) : ∀ k, k < zs.length → zs.getD (argBest (fun i j => decide (zs.getD i [] < zs.getD j [])) k) [] = minS (zs.take (k + 1)) ∧ argBest (fun i j => decide (zs.getD i [] < zs.getD j [])) k < zs.length
  | 0, hk => by
    cases zs with
    | nil => exact absurd rfl h
    | cons x r => exact ⟨rfl, by show 0 < _; simp⟩
  | k + 1, hk => by
    obtain ⟨ih, hl⟩ := best_fold zs h k (by omega)
    have e : argBest (fun i j => decide (zs.getD i [] < zs.getD j [])) (k + 1) = if decide (zs.getD (k + 1) [] < zs.getD (argBest (fun i j => decide (zs.getD i [] < zs.getD j [])) k) []) = true then k + 1 else argBest (fun i j => decide (zs.getD i [] < zs.getD j [])) k := rfl
    have tk : minS (zs.take (k + 1 + 1)) = if zs.getD (k + 1) [] < minS (zs.take (k + 1)) then zs.getD (k + 1) [] else minS (zs.take (k + 1)) := by
      have : zs.take (k + 1 + 1) = zs.take (k + 1) ++ [zs.getD (k + 1) []] := by
        rw [List.take_add_one, List.getElem?_eq_getElem hk, List.getD_eq_getElem?_getD, List.getElem?_eq_getElem hk]
        rfl
      rw [this]
      cases zs with
      | nil => exact absurd rfl h
      | cons x r =>
        rw [List.take_succ_cons]
        show (r.take k ++ [_]).foldl _ x = _
        rw [List.foldl_append]
        rfl
    rw [e, ih, tk]
    by_cases hlt : zs.getD (k + 1) [] < minS (zs.take (k + 1))
    · rw [if_pos (decide_eq_true hlt), if_pos hlt]
      exact ⟨rfl, hk⟩
    · rw [if_neg (by simpa using hlt), if_neg hlt]
      exact ⟨ih, hl⟩
section
variable {prog : Program} {w : World} {A : Around} {E : Value → Shared → Prop} {s : Shared} {l : Addr} {its : List Value} {zs : List (List Nat)} {Q : Value → Shared → Prop}
theorem min_strs (hh : A.handled = none) (hl : s.heap.IsList l its.toArray) (hne : zs ≠ []) (hlen : its.length = zs.length) (hv : ∀ (i : Nat) (v : Value), its[i]? = some v → ∃ t, v = .str ⟨(zs.getD i []).toArray⟩ t)
    (h : ∀ h' tk t, (∀ b o, s.heap.get? b = some o → h'.get? b = some o) → Q (.str ⟨(minS zs).toArray⟩ t) { s with heap := h', toks := tk }) : wpAny (model prog w) A (call (.builtin "min") [.ref l]) Q E s := by
  have hlt : l < s.heap.objs.size := by obtain ⟨_, e, _⟩ := hl; exact Heap.lt_size e
  refine call_min_walk (wpAny_pyIter_list hl ?_)
  have hpos : 0 < zs.length := List.length_pos_iff.mpr hne
  have bt : ∀ i j, decide ((⟨(zs.getD i []).toArray⟩ : Str).cps.toList < (⟨(zs.getD j []).toArray⟩ : Str).cps.toList) = decide (zs.getD i [] < zs.getD j []) := fun i j => rfl
  refine ⟨_, _, _, _, _, _, _, rfl, Walks.list (A := A.in1) hh _ l (Nat.ne_of_lt hlt) its.toArray, ⟨⟨_, Heap.get?_push_size _ rfl, rfl, rfl⟩, hl.push _⟩, fun b hb => ?_, by rw [List.size_toArray]; omega, CmpOf.strs_lt (fun i => ⟨(zs.getD i []).toArray⟩) (fun i v hP => hv i v (by simpa using hP)), fun v h' tk hP hk => ?_⟩
  · show b < (s.heap.push _).objs.size
    rw [Heap.size_push]
    rcases List.mem_cons.mp hb with rfl | hb
    · exact Nat.lt_succ_self _
    · rcases List.mem_cons.mp hb with rfl | hb
      · exact Nat.lt_succ_of_lt hlt
      · cases hb
  · have hold : ∀ b o, s.heap.get? b = some o → h'.get? b = some o := fun b o e => by
      refine hk b o (fun hm => ?_) (Heap.get?_push_of_some _ e)
      rcases List.mem_cons.mp hm with e1 | hm
      · exact absurd (e1 ▸ Heap.lt_size e) (Nat.lt_irrefl _)
      · cases hm
    rw [List.size_toArray, hlen] at hP
    obtain ⟨h1, h2⟩ := best_fold zs hne (zs.length - 1) (by omega)
    obtain ⟨t, rfl⟩ := hv _ v (by simpa using hP)
    have := h h' tk t hold
    rw [show zs.length - 1 + 1 = zs.length by omega, List.take_length] at h1
    rw [← h1] at this
    exact this
theorem min_two_strs {x y : List Nat} {t u : Tok} (hh : A.handled = none)
    (h : ∀ h' tk t', (∀ b o, s.heap.get? b = some o → h'.get? b = some o) → Q (.str ⟨(minS [x, y]).toArray⟩ t') { s with heap := h', toks := tk }) : wpAny (model prog w) A (call (.builtin "min") [.str ⟨x.toArray⟩ t, .str ⟨y.toArray⟩ u]) Q E s := by
  have hT : (s.heap.push { cls := .type "tuple", data := .seq #[.str ⟨x.toArray⟩ t, .str ⟨y.toArray⟩ u] }).IsTuple s.heap.objs.size #[.str ⟨x.toArray⟩ t, .str ⟨y.toArray⟩ u] := ⟨_, Heap.get?_push_size _ rfl, rfl, 0, rfl⟩
  refine call_min_two (wpAny_pyIter_tuple hT ?_)
  have hsz : (s.heap.push { cls := .type "tuple", data := .seq #[.str ⟨x.toArray⟩ t, .str ⟨y.toArray⟩ u] }).objs.size = s.heap.objs.size + 1 := Heap.size_push ..
  refine ⟨_, [_, s.heap.objs.size], [_], _, _, _, _, rfl, Walks.tuple (A := A.in1) hh _ s.heap.objs.size (by rw [hsz]; exact Nat.ne_of_lt (Nat.lt_succ_self _)) #[.str ⟨x.toArray⟩ t, .str ⟨y.toArray⟩ u],
    ⟨⟨_, Heap.get?_push_size _ rfl, rfl, rfl⟩, hT.push _⟩, fun c hc => ?_, by show 0 < 2; decide, CmpOf.strs_lt (fun i => ⟨([x, y].getD i []).toArray⟩) (fun i v hP => ?_), fun v h' tk hP hk => ?_⟩
  · show c < ((s.heap.push _).push _).objs.size
    rw [Heap.size_push, hsz]
    rcases List.mem_cons.mp hc with rfl | hc
    · rw [hsz]; exact Nat.lt_succ_self _
    · rcases List.mem_cons.mp hc with rfl | hc
      · exact Nat.lt_succ_of_lt (Nat.lt_succ_self _)
      · cases hc
  · match i, hP with
    | 0, hP => cases hP; exact ⟨t, rfl⟩
    | 1, hP => cases hP; exact ⟨u, rfl⟩
    | i + 2, hP => simp at hP
  · have hold : ∀ c o, s.heap.get? c = some o → h'.get? c = some o := fun c o e => by
      refine hk c o (fun hm => ?_) (Heap.get?_push_of_some _ (Heap.get?_push_of_some _ e))
      rcases List.mem_cons.mp hm with e1 | hm
      · have := Heap.lt_size e; rw [e1, hsz] at this; exact Nat.lt_irrefl _ (Nat.lt_of_succ_lt this)
      · cases hm
    obtain ⟨h1, h2⟩ := best_fold [x, y] (by simp) 1 (by simp)
    have hP' : (#[Value.str ⟨x.toArray⟩ t, .str ⟨y.toArray⟩ u])[argBest (fun i j => decide ([x, y].getD i [] < [x, y].getD j [])) 1]? = some v := hP
    generalize argBest (fun i j => decide ([x, y].getD i [] < [x, y].getD j [])) 1 = k at *
    have h1 : [x, y].getD k [] = minS [x, y] := h1
    match k, hP', h1 with
    | 0, hP', h1 =>
      cases hP'
      have := h h' tk t hold
      rw [← h1] at this
      exact this
    | 1, hP', h1 =>
      cases hP'
      have := h h' tk u hold
      rw [← h1] at this
      exact this
    | k + 2, hP', h1 => simp at hP'
end
section
variable {X : Cx} {e : Expr} {es : List Expr} {fa : Env → M (List D)} {p pos : Pos}
theorem cr_minS (hc : X.calm = true) : CallR X (.builtin "min") (fun vs H Q => (∃ x y : List Nat, vs = [V.str ⟨x.toArray⟩, .str ⟨y.toArray⟩] ∧ Q (.str ⟨(minS [x, y]).toArray⟩) H) ∨ ∃ (a : Addr) (zs : List (List Nat)), zs ≠ [] ∧ vs = [V.ref a] ∧ SqL X.K H a (zs.map fun z => V.str ⟨z.toArray⟩) ∧ Q (.str ⟨(minS zs).toArray⟩) H) := by
  intro pins s σ H vs us Q I r h
  rcases h with ⟨x, y, rfl, q⟩ | ⟨a, zs, hne, rfl, hs, q⟩
  · obtain ⟨u, w', rfl, ⟨t, rfl⟩, ⟨t', rfl⟩⟩ := vals2 r
    exact min_two_strs (I.ok.hd hc) fun h' tk t' hk => ⟨.str _, H, I.kept hk, ⟨_, rfl⟩, q⟩
  · obtain ⟨its, rv, hl, _⟩ := I.list hs
    rw [Vals.ref1 r]
    have hlen : its.length = zs.length := by rw [← rv.length, List.length_map]
    refine min_strs (I.ok.hd hc) hl.isList hne hlen (fun i v hv => ?_) fun h' tk t' hk => ⟨.str _, H, I.kept hk, ⟨_, rfl⟩, q⟩
    have hi : i < zs.length := by rw [← hlen]; exact (List.getElem?_eq_some_iff.mp hv).1
    obtain ⟨z, hz, rz⟩ := rv.get (i := i) (x := V.str ⟨(zs.getD i []).toArray⟩) (by rw [List.getElem?_map, List.getElem?_eq_getElem hi, List.getD_eq_getElem?_getD, List.getElem?_eq_getElem hi]; rfl)
    rw [hv] at hz
    cases hz
    exact rz
def minSK : Option (List (List Nat)) → M D
  | some (x :: r) => M.ret (.str (minS (x :: r)))
  | _ => M.fail
def minG : List D → M D
  | [.str x, .str y] => M.ret (.str (minS [x, y]))
  | [.lst (.str x :: r)] => minSK (asTs (.str x :: r))
  | xs => minF xs
theorem RpL.textsV {K : PySem.W.Frag} {G : Hp} {vs : List V} {ds : List D} {xs : List (List Nat)} (r : RpL K G vs ds) (h : asTs ds = some xs) : vs = xs.map fun x => V.str ⟨x.toArray⟩ := by
  have := RpL.texts r h
  rw [this, List.map_map]
  rfl
theorem snd_minG : SndC X.K (fun xs H Q => ((∃ x y : List Nat, xs = [V.str ⟨x.toArray⟩, .str ⟨y.toArray⟩] ∧ Q (.str ⟨(minS [x, y]).toArray⟩) H) ∨ ∃ (a : Addr) (zs : List (List Nat)), zs ≠ [] ∧ xs = [V.ref a] ∧ SqL X.K H a (zs.map fun z => V.str ⟨z.toArray⟩) ∧ Q (.str ⟨(minS zs).toArray⟩) H) ∨ ((∃ i j, xs = [.int i, .int j] ∧ Q (.int (if j < i then j else i)) H) ∨ rMin X.K xs H Q)) minG := by
  intro G H b vs ds d b' Q r fz ob e q
  unfold minG at e
  split at e
  · obtain ⟨v, w, rfl, r1, r2⟩ := r.two
    cases e
    cases r1
    cases r2
    exact .inl (.inl ⟨_, _, rfl, q _ G H (Nxt.refl fz ob) (.str _)⟩)
  · rename_i x r0
    obtain ⟨v, rfl, r1⟩ := r.one
    cases et : asTs (.str x :: r0) with
    | none => rw [et] at e; cases e
    | some zs =>
      rw [et] at e
      cases zs with
      | nil => cases e
      | cons z zs =>
        cases e
        cases r1 with
        | lst g rl => exact .inl (.inr ⟨_, z :: zs, by simp, rfl, SqL.of (by rw [fz _ _ g, rl.textsV et]), q _ G H (Nxt.refl fz ob) (.str _)⟩)
  · exact .inr (snd_min G H b vs _ d b' Q r fz ob e q)
theorem d_minG (hc : X.calm = true) (hg : Gl X "min") (hm : X.mg "min" = none) (ha : DA X (e :: es) fa) (he : starEach (e :: es) X.env = (false, eval e X.env) :: starEach es X.env := by rfl) (hpl : (backTo pos (starEach es X.env)).any (·.1) = false := by rfl) : DE X (.Call (.Name "min" p) (e :: es) [] pos) (eCall minG fa) :=
  d_callB ((cr_minS hc).or ((call_min2 hc).or (cr_min hc))) snd_minG hg hm (by decide +kernel) ha (he := he) (hpl := hpl)
theorem q_minG2 (i j : Int) : minG [.int i, .int j] = M.ret (.int (minZ i j)) := rfl
theorem q_minGs (x y : List Nat) : minG [.str x, .str y] = M.ret (.str (minS [x, y])) := rfl
theorem asTs_strs : ∀ xs : List (List Nat), asTs (xs.map D.str) = some xs
  | [] => rfl
  | x :: r => by
    show (match asTs (r.map D.str) with | some l => some (x :: l) | none => none) = _
    rw [asTs_strs r]
theorem minG_strs {zs : List (List Nat)} (h : zs ≠ []) : minG [.lst (zs.map D.str)] = M.ret (.str (minS zs)) := by
  cases zs with
  | nil => exact absurd rfl h
  | cons z r =>
    show minSK (asTs ((z :: r).map D.str)) = _
    rw [asTs_strs]
    rfl
end
end DL
set_option Elab.async false
set_option maxRecDepth 100000
set_option autoImplicit false
set_option linter.unusedVariables false
set_option maxHeartbeats 4000000
namespace DL
open PySem L2 PySem.Spec PyProof.Rows
/-! ### sorted texts, sorted ints -/
def leS (a b : List Nat) : Bool := !decide (b < a)
theorem leS_iff {a b : List Nat} : leS a b = true ↔ a ≤ b := by
  unfold leS
  rw [Bool.not_eq_true', decide_eq_false_iff_not]
  exact List.not_lt
def sortS (xs : List (List Nat)) : List (List Nat) := xs.mergeSort leS
def sortI (ns : List Int) : List Int := ns.mergeSort fun a b => decide (a ≤ b)
theorem leS_trans (a b c : List Nat) (h1 : leS a b = true) (h2 : leS b c = true) : leS a c = true := leS_iff.mpr (List.le_trans (leS_iff.mp h1) (leS_iff.mp h2))
theorem leS_total (a b : List Nat) : (leS a b || leS b a) = true := by
  rw [Bool.or_eq_true, leS_iff, leS_iff]
  exact List.le_total a b
theorem leS_anti {a b : List Nat} (h1 : leS a b = true) (h2 : leS b a = true) : a = b := by
  rcases List.le_iff_lt_or_eq.mp (leS_iff.mp h1) with h | h
  · exact absurd h (List.not_lt.mpr (leS_iff.mp h2))
  · exact h
theorem sortS_perm (xs : List (List Nat)) : (sortS xs).Perm xs := List.mergeSort_perm xs _
theorem sortS_pw (xs : List (List Nat)) : (sortS xs).Pairwise (fun a b => leS a b = true) := List.pairwise_mergeSort leS_trans leS_total xs
theorem sortS_uniq {xs ys : List (List Nat)} (h1 : ys.Perm xs) (h2 : ys.Pairwise (fun a b => leS a b = true)) : ys = sortS xs :=
  List.Perm.eq_of_pairwise (le := fun a b => leS a b = true) (fun a b _ _ => leS_anti) h2 (sortS_pw xs) (h1.trans (sortS_perm xs).symm)
theorem sortI_perm (ns : List Int) : (sortI ns).Perm ns := List.mergeSort_perm ns _
theorem sortI_pw (ns : List Int) : (sortI ns).Pairwise (· ≤ ·) := by
  have := List.pairwise_mergeSort (le := fun (a b : Int) => decide (a ≤ b)) (fun a b c h1 h2 => decide_eq_true (Int.le_trans (of_decide_eq_true h1) (of_decide_eq_true h2))) (fun a b => by
    rw [Bool.or_eq_true, decide_eq_true_iff, decide_eq_true_iff]
    exact Int.le_total a b) ns
  exact this.imp fun h => of_decide_eq_true h
theorem sortI_uniq {ns ms : List Int} (h1 : ms.Perm ns) (h2 : ms.Pairwise (· ≤ ·)) : ms = sortI ns :=
  List.Perm.eq_of_pairwise (le := fun (a b : Int) => a ≤ b) (fun a b _ _ => Int.le_antisymm) h2 (sortI_pw ns) (h1.trans (sortI_perm ns).symm)
section
open SrtO Srt
variable {prog : Program} {w : World} {A : Around} {E : Value → Shared → Prop} {s : Shared}
def ltSv (v u : Value) : Bool := decide ((strOf v).cps.toList < (strOf u).cps.toList)
theorem swo_str : Swo ltSv := by
  refine ⟨fun x y h => ?_, fun x y z h1 h2 => ?_⟩
  · have a := of_decide_eq_true (p := (strOf x).cps.toList < (strOf y).cps.toList) h
    exact decide_eq_false (p := (strOf y).cps.toList < (strOf x).cps.toList) (List.lt_asymm a)
  · have a := of_decide_eq_false (p := (strOf y).cps.toList < (strOf x).cps.toList) h1
    have b := of_decide_eq_false (p := (strOf z).cps.toList < (strOf y).cps.toList) h2
    exact decide_eq_false (p := (strOf z).cps.toList < (strOf x).cps.toList) (List.not_lt.mpr (List.le_trans (List.not_lt.mp a) (List.not_lt.mp b)))
theorem str_cmp {vs : List Value} {ss : List PySem.Str} (hI : StrsAre vs ss) : Cmp prog w A s oneType' (fun p => p.1 ∈ vs) (lt2 ltSv) := by
  intro p q hm hm'
  obtain ⟨a, t, e⟩ := hI.all _ hm
  obtain ⟨b, u, e'⟩ := hI.all _ hm'
  show wpAny (model prog w) A (keyLt' oneType' p.1 q.1) (fun r s' => s' = s ∧ r = ltSv p.1 q.1) (fun _ _ => False) s
  rw [e, e', keyLt'_oneType]
  exact oneLt_str ⟨rfl, rfl⟩
theorem strs_sortable {a : Addr} {vs : List Value} {ss : List PySem.Str} (hI : StrsAre vs ss) (h2 : 2 ≤ vs.length) : SortableO prog w A s a vs ltSv := by
  intro h' _
  refine ⟨oneType', fun Q E hq => ?_, str_cmp hI⟩
  match vs, hI, h2 with
  | v1 :: v2 :: rest, hI, _ =>
    rw [keyKind_strs hI]
    exact wpAny_pure hq
  | [], _, h => exact absurd h (by decide)
  | [v], _, h => exact absurd h (by simp)
theorem strs_out {vs out : List Value} {ss : List PySem.Str} (hI : StrsAre vs ss) (hs : Srtd ltSv out) (hb : Stb ltSv out vs) : StrsAre out (out.map strOf) ∧ (out.map strOf).Perm ss ∧ (out.map strOf).Pairwise (fun a b => ¬ b.cps.toList < a.cps.toList) := by
  refine ⟨strsAre_map out fun v hv => hI.all v (hb.perm.mem_iff.mp hv), ?_, ?_⟩
  · have q := hb.perm.map strOf
    rw [hI.strs] at q
    exact q
  · exact List.pairwise_map.mpr (hs.imp fun {x y} h => of_decide_eq_false (p := (strOf y).cps.toList < (strOf x).cps.toList) h)
end
section
variable {X : Cx}
def rSortedStr (K : PySem.W.Frag) : List V → Hp → VK → Prop := fun vs H Q => ∃ (a : Addr) (xs : List (List Nat)), vs = [V.ref a] ∧ SqL K H a (xs.map fun x => V.str ⟨x.toArray⟩) ∧ ∀ p : Addr, H p = none → Q (.ref p) (upd H p (.lst ((sortS xs).map fun x => V.str ⟨x.toArray⟩)))
theorem cr_sortedStr : CallR X (.builtin "sorted") (rSortedStr X.K) := by
  intro pins s σ H vs us Q I r h
  obtain ⟨a, xs, rfl, hs, q⟩ := h
  obtain ⟨its, rv, hl, hz⟩ := I.list hs
  rw [Vals.ref1 r]
  have rv' : Vals ((xs.map fun x => (⟨x.toArray⟩ : PySem.Str)).map V.str) its := by rw [List.map_map]; exact rv
  have hi := rv'.strs
  refine SrtO.sorted_ord swo_str hl.isList (by rw [← rv.length]; exact hz) (fun h2 h₁ a' _ _ => strs_sortable hi h2) fun out h1 h2 => ?_
  obtain ⟨k1, k2, k3⟩ := strs_out hi h1 h2
  obtain ⟨ep, he'⟩ := PyProof.Rows.sortedAll_at s.heap its out.toArray
  have e : out.map strOf = (sortS xs).map fun x => (⟨x.toArray⟩ : PySem.Str) := by
    have h1 : ((out.map strOf).map fun x => x.cps.toList) = sortS xs := by
      refine sortS_uniq ?_ ?_
      · have := k2.map fun x => x.cps.toList
        have e2 : ((fun x : PySem.Str => x.cps.toList) ∘ fun x : List Nat => (⟨x.toArray⟩ : PySem.Str)) = id := rfl
        rw [List.map_map (l := xs), e2, List.map_id] at this
        exact this
      · exact List.pairwise_map.mpr (k3.imp fun {x y} h => by unfold leS; rw [decide_eq_false h]; rfl)
    rw [← h1, List.map_map]
    have : ((fun x : List Nat => (⟨x.toArray⟩ : PySem.Str)) ∘ fun x : PySem.Str => x.cps.toList) = id := by
      funext x
      cases x
      simp
    rw [this, List.map_id]
  have hlen : ((out.map strOf).map V.str).length ≤ sizeLine := by
    rw [List.length_map, k2.length_eq, List.length_map]
    rw [List.length_map] at hz
    exact hz
  have ok : ObjOk X.prog X.w (upd H (s.heap.objs.size + 1) (.lst ((out.map strOf).map V.str))) _ (s.heap.objs.size + 1) (.lst ((out.map strOf).map V.str)) := ⟨hlen, out, ep, vals_of_strs k1, he'⟩
  have eq2 : (out.map strOf).map V.str = (sortS xs).map fun x => V.str ⟨x.toArray⟩ := by rw [e, List.map_map]; rfl
  rw [eq2] at ok
  exact ⟨.ref _, _, I.laid (t' := s.toks) (fun _ _ => PyProof.Rows.sortedAll_old) (Nat.le_succ _) ok, rfl, q _ (I.hok.fresh (Nat.le_succ _))⟩
def sortK : Option (List (List Nat)) → Option (List Int) → M (List D)
  | some xs, _ => M.ret ((sortS xs).map D.str)
  | none, some ns => M.ret ((sortI ns).map D.int)
  | none, none => M.fail
def sortedF : List D → M (List D)
  | [.lst ds] => sortK (asTs ds) (intsD ds)
  | _ => M.fail
theorem RpL.strsD {K : PySem.W.Frag} {G : Hp} : ∀ xs : List (List Nat), RpL K G (xs.map fun x => V.str ⟨x.toArray⟩) (xs.map D.str)
  | [] => .nil
  | x :: r => .cons (.str x) (RpL.strsD r)
theorem snd_sorted : SndCN X.K (fun xs H Q => rSortedStr X.K xs H Q ∨ rSortedI X.K xs H Q) sortedF := by
  intro G H b vs ds xs b' Q r fz ob e q
  unfold sortedF at e
  split at e
  · rename_i ds
    obtain ⟨v, rfl, r1⟩ := r.one
    cases r1 with
    | lst g rl =>
      cases et : asTs ds with
      | some ts =>
        rw [et] at e
        cases e
        refine .inl ⟨_, ts, rfl, SqL.of (by rw [fz _ _ g, rl.textsV et]), fun p hp => ?_⟩
        exact q p _ G _ (Nxt.newH fz ob hp) hp (gnone fz hp) upd_same (RpL.strsD _)
      | none =>
        rw [et] at e
        cases ei : intsD ds with
        | none => rw [ei] at e; cases e
        | some ns =>
          rw [ei] at e
          cases e
          refine .inr ⟨_, ns, rfl, SqL.of (by rw [fz _ _ g, intsD_of rl ei]), fun ns' p h1 h2 hp => ?_⟩
          rw [sortI_uniq h1 h2]
          exact q p _ G _ (Nxt.newH fz ob hp) hp (gnone fz hp) upd_same (RpL.ints _)
  · cases e
theorem dn_sorted {e : Expr} {fa : Env → M (List D)} {p pos : Pos} (hg : Gl X "sorted") (hm : X.mg "sorted" = none) (ha : DA X [e] fa) (he : starEach [e] X.env = (false, eval e X.env) :: starEach [] X.env := by rfl) : DN X (.Call (.Name "sorted" p) [e] [] pos) (nCall sortedF fa) :=
  dn_callB (cr_sortedStr.or cr_sortedI) snd_sorted hg hm (by decide +kernel) ha (he := he)
theorem sortedF_strs (xs : List (List Nat)) : sortedF [.lst (xs.map D.str)] = M.ret ((sortS xs).map D.str) := by
  show sortK (asTs _) _ = _
  rw [asTs_strs]
  rfl
theorem sortedF_ints {ns : List Int} (h : ns ≠ []) : sortedF [.lst (ns.map D.int)] = M.ret ((sortI ns).map D.int) := by
  cases ns with
  | nil => exact absurd rfl h
  | cons i r =>
    show sortK (asTs ((i :: r).map D.int)) (intsD ((i :: r).map D.int)) = _
    rw [intsD_map]
    rfl
end
/-! ### ** -/
section
variable {X : Cx} {a b : Expr} {pos : Pos} {f g : Env → M D}
def powD : D → D → M D := i2 fun i j => if 0 ≤ j ∧ j ≤ 1000000 ∧ i.natAbs < 2 ^ 64 then some (i ^ j.toNat) else none
theorem d_pow (ha : DE X a f) (hb : DE X b g) : DE X (.BinOp a .Pow b pos) (e2 powD f g) := d_op op_pow (snd_i2 fun i j z h => by
  split at h
  · cases h; exact ⟨by assumption, rfl⟩
  · cases h) ha hb
theorem pow_is {i j : Int} (h : 0 ≤ j ∧ j ≤ 1000000 ∧ i.natAbs < 2 ^ 64) : powD (.int i) (.int j) = M.ret (.int (i ^ j.toNat)) := by
  show M.of ((if 0 ≤ j ∧ j ≤ 1000000 ∧ i.natAbs < 2 ^ 64 then some (i ^ j.toNat) else none : Option Int).map D.int) = _
  rw [if_pos h]; rfl
/-- {} as data -/
theorem d_dict0 {p2 : Pos} : DE X (.Dict [] [] p2) (cst (.dct [] [])) := by
  refine PEimp pe_dnewK ?_
  rintro σ H Q ⟨ρ, G, b, d, b', rs, fz, ob, e, q⟩
  cases e
  intro p hp
  have m := Nxt.newF (o := .dK []) fz ob hp
  exact q _ _ _ m (.dct (ks := []) (vs := []) upd_same rfl .nil)
end
end DL
set_option Elab.async false
set_option maxRecDepth 100000
set_option autoImplicit false
set_option linter.unusedVariables false
set_option maxHeartbeats 4000000
namespace DL
open PySem L2 PySem.Spec PyProof.Rows
/-! ### f() -/
section
variable {X : Cx} {k : Nat} {f : Addr} {fd : FuncData} {ps : List Str} {x : Str} {p pos : Pos} {Fn : List D → M D} {Fl : List D → M (List D)}
theorem call0_f {K : PySem.W.Frag} : ∀ σ H Q, tF K (eCall Fn aN) σ H Q → tCall (spD K 0 Fn) [] E0 tNil σ H Q := by
  rintro σ H Q ⟨ρ, G, b, d, b', rs, fz, ob, e, q⟩
  exact ⟨G, b, [], d, b', .nil, rfl, fz, ob, e, q⟩
theorem call0N_f {K : PySem.W.Frag} : ∀ σ H Q, tN K (nCall Fl aN) σ H Q → tCall (spN K 0 Fl) [] E0 tNil σ H Q := by
  rintro σ H Q ⟨ρ, G, b, d, b', rs, fz, ob, e, q⟩
  exact ⟨G, b, [], d, b', .nil, rfl, fz, ob, e, q⟩
theorem d_call0 (F : FnOk X.prog X.w X.K X.mg X.base CX0 k f fd ps (spD X.K 0 Fn)) (hr : Room k X.A) (hg : Gl X x) (hm : X.mg x = some (.ref f)) (hk : PySem.W.keepIn X.K (.ref f) = true) (hb : Binds X.K fd ps []) (hdb : (x == ("__debug__" : Str)) = false := by decide) :
    DE X (.Call (.Name x p) [] [] pos) (eCall Fn aN) := PEimp (pe_call0 F hr hg hm hk hb .nil (fun _ _ _ _ _ _ _ h => h.elim) hdb) call0_f
theorem dn_call0 (F : FnOk X.prog X.w X.K X.mg X.base CX0 k f fd ps (spN X.K 0 Fl)) (hr : Room k X.A) (hg : Gl X x) (hm : X.mg x = some (.ref f)) (hk : PySem.W.keepIn X.K (.ref f) = true) (hb : Binds X.K fd ps []) (hdb : (x == ("__debug__" : Str)) = false := by decide) :
    DN X (.Call (.Name x p) [] [] pos) (nCall Fl aN) := PEimp (pe_call0 F hr hg hm hk hb .nil (fun _ _ _ _ _ _ _ h => h.elim) hdb) call0N_f
end
end DL
set_option Elab.async false
set_option maxRecDepth 100000
set_option autoImplicit false
set_option linter.unusedVariables false
set_option maxHeartbeats 4000000
namespace DL
open PySem L2 PySem.Spec PyProof.Rows
variable {X : Cx} {pos : Pos}
/-! ### xs += new list -/
theorem ip_ext : PIp X .Add rExt2 := by
  intro pins s σ H x y v u Q I rx ry h
  exact iop_ext pins s σ H x y v u Q I rx ry h
theorem s_augExt (j : Nat) (ms : List Nat) {x : Str} {e : Expr} {f : Env → M (List D)} {pos' : Pos} (hN : X.N.Nodup) (hi : X.N[j]? = some x) (hx : Loc X.env.scope x) (he : DN X e f) (hf : X.fn x = true ∨ X.env.scope.names.lookup x = some .local := by first | exact .inl rfl | exact .inr rfl | assumption) :
    DS X (.AugAssign (.Name x pos') .Add e pos) (extM j ms f) := by
  refine PSimp (ps_aug hN hi hx he ip_ext hf) ?_
  rintro D σ H ⟨E, ρ, G, b, o, b', I, e, q⟩
  obtain ⟨ds, b1, e1, e2⟩ := M.bind_some e
  cases ej : (keepIf (ds.all DL.D.flat) ms ρ)[j]? with
  | none => rw [ej] at e2; cases e2
  | some s =>
    cases s with
    | none => rw [ej] at e2; cases e2
    | some s =>
      cases s with
      | val d => rw [ej] at e2; cases e2
      | tr o => rw [ej] at e2; cases e2
      | own xs =>
        rw [ej] at e2
        obtain ⟨hz, e3⟩ := M.guard_some e2
        cases e3
        obtain ⟨p, vs, h1, h2, h3, h4, h5, h6⟩ := I.ownL (keepIf_own ej)
        refine ⟨_, h1, ?_⟩
        refine ⟨_, _, b, ds, b', I.rs ms, I.gp2 ms, I.gpb ms, e1, fun pn ws G1 H1 n1 hp gn hh r => ?_⟩
        obtain ⟨G2, I2, r2, g2, _⟩ := I.afterN n1 r gn hp
        obtain ⟨p', vs', f1, f2, f3, f4, f5, f6⟩ := I2.ownL ej
        rw [h1] at f1
        cases f1
        refine ⟨p, pn, vs', ws, rfl, rfl, f4, hh, by rw [f5.length, r2.length]; exact of_decide_eq_true hz, ?_⟩
        have es : σ.set j (some (.ref p)) = σ := by
          apply List.ext_getElem?
          intro k
          rw [List.getElem?_set]
          split
          · rename_i hk
            subst hk
            rw [h1]
            have hj := (List.getElem?_eq_some_iff.mp h1).1
            rw [if_pos hj]
          · rfl
        show D.nx (σ.set j (some (.ref p))) _
        rw [es]
        exact q σ G2 _ (I2.mut ej h1 (f5.append r2))
end DL
set_option Elab.async false
set_option maxRecDepth 100000
set_option autoImplicit false
set_option linter.unusedVariables false
set_option maxHeartbeats 4000000
namespace LW
open PySem L2 PySem.Spec PyProof.Rows DL
local macro_rules | `(tactic| walk_at "dis") => `(tactic| first | assumption | omega | (simp only [List.length_map, List.length_range, List.length_append, List.length_cons, List.length_nil, List.length_reverse, List.length_take, List.length_drop, List.length_replicate, List.length_singleton]; omega) | (simp; done))
local macro_rules | `(tactic| walk_at "ev") => `(tactic| try simp -implicitDefEqProofs -dsimp (disch := walk_at "dis") only [↓q_seq, ↓q_seqK_nx, ↓q_seqK_rt, ↓q_seqK_rn, ↓q_seqK_bk, ↓q_seqK_ct, ↓q_runD, ↓q_runN, q_runK_rt, q_runK_rn, q_runK_nx, q_runKN_rn, ↓q_set, ↓q_setN, ↓q_ret, ↓q_retN, ↓q_drop, ↓q_if, ↓q_unp, q_unpK, ↓q_par, q_parK, ↓q_app, q_appK, ↓q_aug, q_augK, q_addF_int, q_addF_str, q_guard, ↓q_for, ↓q_forR, q_loopK_nx, q_loopK_ct, q_loopK_bk, q_loopK_rt, q_loopK_rn, ↓q_sNil, ↓q_e2, ↓q_t2, ↓q_e1, ↓q_cst, ↓q_aN, ↓q_aC, ↓q_call, ↓q_callN, ↓q_eN, ↓q_nLst, q_lstK, ↓q_eTup, q_tupK, ↓q_tVal, ↓q_tNot, ↓q_tAnd, ↓q_tOr, ↓q_eAnd, ↓q_eOr, ↓q_eNot, ↓q_eIf, ↓q_iAny, ↓q_iRg1, ↓q_iRg2, ↓q_iEnum, ↓q_nLc, ↓q_cT, ↓q_oN, ↓q_oS, ↓q_eSl, ↓q_eChain, ↓q_tBl, ↓q_eMake, ↓q_eMeth, ↓q_nMeth, ↓q_n1M, ↓q_iSeq, q_selK, q_self, ↓q_iTwo, ↓q_iTwoS, q_two2s, q_two2, ↓q_ext, q_extK, ↓q_nLc2, q_count, q_inE, q_notInE, q_is_non, q_is_str, q_is_int, q_is_tup, q_is_lst, q_isnt_non, q_isnt_str, q_isnt_int, q_isnt_tup, q_isnt_lst, q_list_l, q_list_t, q_tuple_l, q_tuple_t, q_max2, q_min2, q_sum, q_ixF_s, q_ixF_l, q_ixF_t, q_ixF_b, q_inF_s, q_inF_l, q_inF_t, q_lenG_s, q_lenG_l, q_lenG_t, q_lenG_d, q_lenG_dt, ↓q_setD, ↓q_dput, q_dputK, q_keyI, q_keyS, q_seeT, q_toDv, q_toDl, q_toDk, q_toDt, q_toDs0, q_toDs1, q_toDsm, q_fls0, q_fls1, q_flv, q_fll, q_flk, q_flt, q_flsm, q_sloV, q_sloK, q_sloT, q_sloL, q_sloLl, ↓q_oV, ↓q_oL, ↓q_oC, ↓q_oaN, ↓q_oaC, ↓q_oLst, q_oLstK, ↓q_setO, ↓q_parO, q_parOK, ↓q_parO3, q_parO3K, ↓q_appAt, q_appAtK, q_appAtK2, q_flatS, q_flatI, q_flatS2, q_mapv0, q_sloL0, bnd_ret, bnd_assoc, bnd_assoc', bnd_r, cnd_t, cnd_f, fail_bnd, bind_bnd, str01, List.cons.injEq, and_true, decide_true, decide_false, cut_toN, cut_fromN, cut_from1N, cut_to1N, cut_to1, cut_to2, cut_to3, cut_from1, cut_toM1, cut_fromM1, DL.startD, List.map_cons, List.map_nil, List.length_cons, List.length_nil, Nat.reduceAdd, Nat.reduceSub, List.replicate, List.cons_append, List.nil_append, view_eq, viewAt_cons, viewAt_nil, List.contains_cons, List.contains_nil, Nat.reduceBEq, Bool.or_true, Bool.or_false, Bool.true_or, Bool.false_or, if_true, Bool.false_eq_true, if_false, Option.map_some, Option.map_none, see_val, see_own, rd_0, rd_1, rd_2, rd_3, rd_4, rd_5, rd_6, rd_7, rd_8, rd_9, rd_10, rd_11, rd_12, rd_13, rd_14, rd_15, rd_16, rd_17, rd_18, rd_19, rd_20, rd_21, rd_22, rd_23, rd_24, rd_25, rd_26, rd_27, rd_28, rd_29, rd_30, rd_31, rd_32, rd_33, rd_34, rd_35, rd_36, rd_37, rd_38, rd_39, rd_40, rd_41, rd_42, rd_43, rd_44, rd_45, Int.reduceToNat, flat_int, flat_str, flat_bl, flat_non, flat_bag, flat_lst, flat_tup, flat_obj, List.all_cons, List.all_nil, Bool.and_true, Bool.true_and, Bool.and_false, Bool.false_and, keepIf_t, keepIf_f, frz_eq, frzAt_cons, frzAt_nil, List.set_cons_succ, List.set_cons_zero, subD_int, addD_int, negD_int, asI_int, asB_bl, truD_bl, lenF_lst, lenF_tup, intF_int, intF_bl, absF_int, ltD_int, leD_int, gtD_int, geD_int, eqD_int, eqD_str, neD_int, neD_str, inD_str, notInD_str, slD_lst, slD_scr, revD_lst, itemsD_lst, itemsD_tup, itemsD_str, Bool.not_true, Bool.not_false, ixD_l, ixD_t, ofSome, atI_0, atI_1, atI_2, atI_3, atI_4, atI_app, slotD_obj, propD_obj, propN_obj, isC_obj, get0, get1, get2, get3, getS, bName_eq, bTup_eq, bCons_eq, bNil_eq, setAll2_cons, setAll2_nil, setAllD_cons, setAllD_nil, wipeD_cons, wipeD_nil, isi_str_str, isi_int_int, isi_bool_int, List.getElem?_cons_zero, List.getElem?_cons_succ, ↓q_nIf, q_minG2, q_minGs, q_eqC, q_isiO, q_isiO_i, q_isiO_s, q_isiO_n, q_isiO_l, q_isiO_t, q_cndN, q_szL, q_sloL1, q_sloL2, q_sloL3, q_c0, q_c1, q_c2, q_c3, q_c4, q_c5, q_c6, q_c7, q_c8, q_c9, q_c10, q_c11, q_c12, q_c13, q_c14, q_c15, q_c16, q_eqBl, q_neBl, q_bin4, q_sumL, q_disp, q_prs0, q_prs1, q_dc, q_tput, q_tputK, q_inT, q_inTK, q_getT, q_getTK, q_keysI1, q_keys2s, q_keys2i, q_keys2ii, q_neC, q_augSub, q_shr, eq_self, cnd_dt, cnd_df, Int.toNat_natCast, lenF_str, modD_int, divD_int, addD_str, addD_lst, slD_str, revD_str, ixD_str, ixD_str1, ixD_strmod, rng1_int, rng2_int, mulD_intl, mulD_intr, intF_dig])
local macro_rules | `(tactic| walk_at "evl") => `(tactic| try simp -implicitDefEqProofs -dsimp (disch := walk_at "dis") only [↓q_seq, ↓q_seqK_nx, ↓q_seqK_rt, ↓q_seqK_rn, ↓q_seqK_bk, ↓q_seqK_ct, ↓q_runD, ↓q_runN, q_runK_rt, q_runK_rn, q_runK_nx, q_runKN_rn, ↓q_set, ↓q_setN, ↓q_ret, ↓q_retN, ↓q_drop, ↓q_if, ↓q_unp, q_unpK, ↓q_par, q_parK, ↓q_app, q_appK, ↓q_aug, q_augK, q_addF_int, q_addF_str, q_guard, ↓q_for, ↓q_forR, q_loopK_nx, q_loopK_ct, q_loopK_bk, q_loopK_rt, q_loopK_rn, ↓q_sNil, ↓q_e2, ↓q_t2, ↓q_e1, ↓q_cst, ↓q_aN, ↓q_aC, ↓q_call, ↓q_callN, ↓q_eN, ↓q_nLst, q_lstK, ↓q_eTup, q_tupK, ↓q_tVal, ↓q_tNot, ↓q_tAnd, ↓q_tOr, ↓q_eAnd, ↓q_eOr, ↓q_eNot, ↓q_eIf, ↓q_iAny, ↓q_iRg1, ↓q_iRg2, ↓q_iEnum, ↓q_nLc, ↓q_cT, ↓q_oN, ↓q_oS, ↓q_eSl, ↓q_eChain, ↓q_tBl, ↓q_eMake, ↓q_eMeth, ↓q_nMeth, ↓q_n1M, ↓q_iSeq, q_selK, q_self, ↓q_iTwo, ↓q_iTwoS, q_two2s, q_two2, ↓q_ext, q_extK, ↓q_nLc2, q_count, q_inE, q_notInE, q_is_non, q_is_str, q_is_int, q_is_tup, q_is_lst, q_isnt_non, q_isnt_str, q_isnt_int, q_isnt_tup, q_isnt_lst, q_list_l, q_list_t, q_tuple_l, q_tuple_t, q_max2, q_min2, q_sum, q_ixF_s, q_ixF_l, q_ixF_t, q_ixF_b, q_inF_s, q_inF_l, q_inF_t, q_lenG_s, q_lenG_l, q_lenG_t, q_lenG_d, q_lenG_dt, ↓q_setD, ↓q_dput, q_dputK, q_keyI, q_keyS, q_seeT, q_toDv, q_toDl, q_toDk, q_toDt, q_toDs0, q_toDs1, q_toDsm, q_fls0, q_fls1, q_flv, q_fll, q_flk, q_flt, q_flsm, q_sloV, q_sloK, q_sloT, q_sloL, q_sloLl, ↓q_oV, ↓q_oL, ↓q_oC, ↓q_oaN, ↓q_oaC, ↓q_oLst, q_oLstK, ↓q_setO, ↓q_parO, q_parOK, ↓q_parO3, q_parO3K, ↓q_appAt, q_appAtK, q_appAtK2, q_flatS, q_flatI, q_flatS2, q_mapv0, q_sloL0, bnd_ret, bnd_assoc, bnd_assoc', bnd_r, cnd_t, cnd_f, fail_bnd, bind_bnd, str01, List.cons.injEq, and_true, decide_true, decide_false, cut_toN, cut_fromN, cut_from1N, cut_to1N, cut_to1, cut_to2, cut_to3, cut_from1, cut_toM1, cut_fromM1, DL.startD, List.map_cons, List.map_nil, List.length_cons, List.length_nil, Nat.reduceAdd, Nat.reduceSub, List.replicate, List.cons_append, List.nil_append, view_eq, viewAt_cons, viewAt_nil, List.contains_cons, List.contains_nil, Nat.reduceBEq, Bool.or_true, Bool.or_false, Bool.true_or, Bool.false_or, if_true, Bool.false_eq_true, if_false, Option.map_some, Option.map_none, see_val, see_own, rd_0, rd_1, rd_2, rd_3, rd_4, rd_5, rd_6, rd_7, rd_8, rd_9, rd_10, rd_11, rd_12, rd_13, rd_14, rd_15, rd_16, rd_17, rd_18, rd_19, rd_20, rd_21, rd_22, rd_23, rd_24, rd_25, rd_26, rd_27, rd_28, rd_29, rd_30, rd_31, rd_32, rd_33, rd_34, rd_35, rd_36, rd_37, rd_38, rd_39, rd_40, rd_41, rd_42, rd_43, rd_44, rd_45, Int.reduceToNat, flat_int, flat_str, flat_bl, flat_non, flat_bag, flat_lst, flat_tup, flat_obj, List.all_cons, List.all_nil, Bool.and_true, Bool.true_and, Bool.and_false, Bool.false_and, keepIf_t, keepIf_f, frz_eq, frzAt_cons, frzAt_nil, List.set_cons_succ, List.set_cons_zero, subD_int, addD_int, negD_int, asI_int, asB_bl, truD_bl, lenF_lst, lenF_tup, intF_int, intF_bl, absF_int, ltD_int, leD_int, gtD_int, geD_int, eqD_int, eqD_str, neD_int, neD_str, inD_str, notInD_str, slD_lst, slD_scr, revD_lst, itemsD_lst, itemsD_tup, itemsD_str, Bool.not_true, Bool.not_false, ixD_l, ixD_t, ofSome, atI_0, atI_1, atI_2, atI_3, atI_4, atI_app, slotD_obj, propD_obj, propN_obj, isC_obj, get0, get1, get2, get3, getS, bName_eq, bTup_eq, bCons_eq, bNil_eq, setAll2_cons, setAll2_nil, setAllD_cons, setAllD_nil, wipeD_cons, wipeD_nil, isi_str_str, isi_int_int, isi_bool_int, List.getElem?_cons_zero, List.getElem?_cons_succ, ↓q_nIf, q_minG2, q_minGs, q_eqC, q_isiO, q_isiO_i, q_isiO_s, q_isiO_n, q_isiO_l, q_isiO_t, q_cndN, q_szL, q_sloL1, q_sloL2, q_sloL3, q_c0, q_c1, q_c2, q_c3, q_c4, q_c5, q_c6, q_c7, q_c8, q_c9, q_c10, q_c11, q_c12, q_c13, q_c14, q_c15, q_c16, q_eqBl, q_neBl, q_bin4, q_sumL, q_disp, q_prs0, q_prs1, q_dc, q_tput, q_tputK, q_inT, q_inTK, q_getT, q_getTK, q_keysI1, q_keys2s, q_keys2i, q_keys2ii, q_neC, q_augSub, q_shr, eq_self, cnd_dt, cnd_df, Int.toNat_natCast, lenF_str, modD_int, divD_int, addD_str, addD_lst, slD_str, revD_str, ixD_str, ixD_str1, ixD_strmod, rng1_int, rng2_int, mulD_intl, mulD_intr, intF_dig, q_loop0, q_loopN, q_comp0, q_compT, q_compC])
local macro_rules | `(tactic| walk_at "evc") => `(tactic| try simp -implicitDefEqProofs -dsimp (disch := walk_at "dis") only [↓q_seq, ↓q_seqK_nx, ↓q_seqK_rt, ↓q_seqK_rn, ↓q_seqK_bk, ↓q_seqK_ct, ↓q_runD, ↓q_runN, q_runK_rt, q_runK_rn, q_runK_nx, q_runKN_rn, ↓q_set, ↓q_setN, ↓q_ret, ↓q_retN, ↓q_drop, ↓q_if, ↓q_unp, q_unpK, ↓q_par, q_parK, ↓q_app, q_appK, ↓q_aug, q_augK, q_addF_int, q_addF_str, q_guard, ↓q_for, ↓q_forR, q_loopK_nx, q_loopK_ct, q_loopK_bk, q_loopK_rt, q_loopK_rn, ↓q_sNil, ↓q_e2, ↓q_t2, ↓q_e1, ↓q_cst, ↓q_aN, ↓q_aC, ↓q_call, ↓q_callN, ↓q_eN, ↓q_nLst, q_lstK, ↓q_eTup, q_tupK, ↓q_tVal, ↓q_tNot, ↓q_tAnd, ↓q_tOr, ↓q_eAnd, ↓q_eOr, ↓q_eNot, ↓q_eIf, ↓q_iAny, ↓q_iRg1, ↓q_iRg2, ↓q_iEnum, ↓q_nLc, ↓q_cT, ↓q_oN, ↓q_oS, ↓q_eSl, ↓q_eChain, ↓q_tBl, ↓q_eMake, ↓q_eMeth, ↓q_nMeth, ↓q_n1M, ↓q_iSeq, q_selK, q_self, ↓q_iTwo, ↓q_iTwoS, q_two2s, q_two2, ↓q_ext, q_extK, ↓q_nLc2, q_count, q_inE, q_notInE, q_is_non, q_is_str, q_is_int, q_is_tup, q_is_lst, q_isnt_non, q_isnt_str, q_isnt_int, q_isnt_tup, q_isnt_lst, q_list_l, q_list_t, q_tuple_l, q_tuple_t, q_max2, q_min2, q_sum, q_ixF_s, q_ixF_l, q_ixF_t, q_ixF_b, q_inF_s, q_inF_l, q_inF_t, q_lenG_s, q_lenG_l, q_lenG_t, q_lenG_d, q_lenG_dt, ↓q_setD, ↓q_dput, q_dputK, q_keyI, q_keyS, q_seeT, q_toDv, q_toDl, q_toDk, q_toDt, q_toDs0, q_toDs1, q_toDsm, q_fls0, q_fls1, q_flv, q_fll, q_flk, q_flt, q_flsm, q_sloV, q_sloK, q_sloT, q_sloL, q_sloLl, ↓q_oV, ↓q_oL, ↓q_oC, ↓q_oaN, ↓q_oaC, ↓q_oLst, q_oLstK, ↓q_setO, ↓q_parO, q_parOK, ↓q_parO3, q_parO3K, ↓q_appAt, q_appAtK, q_appAtK2, q_flatS, q_flatI, q_flatS2, q_mapv0, q_sloL0, bnd_ret, bnd_assoc, bnd_assoc', bnd_r, cnd_t, cnd_f, fail_bnd, bind_bnd, str01, List.cons.injEq, and_true, decide_true, decide_false, cut_toN, cut_fromN, cut_from1N, cut_to1N, cut_to1, cut_to2, cut_to3, cut_from1, cut_toM1, cut_fromM1, DL.startD, List.map_cons, List.map_nil, List.length_cons, List.length_nil, Nat.reduceAdd, Nat.reduceSub, List.replicate, List.cons_append, List.nil_append, view_eq, viewAt_cons, viewAt_nil, List.contains_cons, List.contains_nil, Nat.reduceBEq, Bool.or_true, Bool.or_false, Bool.true_or, Bool.false_or, if_true, Bool.false_eq_true, if_false, Option.map_some, Option.map_none, see_val, see_own, rd_0, rd_1, rd_2, rd_3, rd_4, rd_5, rd_6, rd_7, rd_8, rd_9, rd_10, rd_11, rd_12, rd_13, rd_14, rd_15, rd_16, rd_17, rd_18, rd_19, rd_20, rd_21, rd_22, rd_23, rd_24, rd_25, rd_26, rd_27, rd_28, rd_29, rd_30, rd_31, rd_32, rd_33, rd_34, rd_35, rd_36, rd_37, rd_38, rd_39, rd_40, rd_41, rd_42, rd_43, rd_44, rd_45, Int.reduceToNat, flat_int, flat_str, flat_bl, flat_non, flat_bag, flat_lst, flat_tup, flat_obj, List.all_cons, List.all_nil, Bool.and_true, Bool.true_and, Bool.and_false, Bool.false_and, keepIf_t, keepIf_f, frz_eq, frzAt_cons, frzAt_nil, List.set_cons_succ, List.set_cons_zero, subD_int, addD_int, negD_int, asI_int, asB_bl, truD_bl, lenF_lst, lenF_tup, intF_int, intF_bl, absF_int, ltD_int, leD_int, gtD_int, geD_int, eqD_int, eqD_str, neD_int, neD_str, inD_str, notInD_str, slD_lst, slD_scr, revD_lst, itemsD_lst, itemsD_tup, itemsD_str, Bool.not_true, Bool.not_false, ixD_l, ixD_t, ofSome, atI_0, atI_1, atI_2, atI_3, atI_4, atI_app, slotD_obj, propD_obj, propN_obj, isC_obj, get0, get1, get2, get3, getS, bName_eq, bTup_eq, bCons_eq, bNil_eq, setAll2_cons, setAll2_nil, setAllD_cons, setAllD_nil, wipeD_cons, wipeD_nil, isi_str_str, isi_int_int, isi_bool_int, List.getElem?_cons_zero, List.getElem?_cons_succ, ↓q_nIf, q_minG2, q_minGs, q_eqC, q_isiO, q_isiO_i, q_isiO_s, q_isiO_n, q_isiO_l, q_isiO_t, q_cndN, q_szL, q_sloL1, q_sloL2, q_sloL3, q_c0, q_c1, q_c2, q_c3, q_c4, q_c5, q_c6, q_c7, q_c8, q_c9, q_c10, q_c11, q_c12, q_c13, q_c14, q_c15, q_c16, q_eqBl, q_neBl, q_bin4, q_sumL, q_disp, q_prs0, q_prs1, q_dc, q_tput, q_tputK, q_inT, q_inTK, q_getT, q_getTK, q_keysI1, q_keys2s, q_keys2i, q_keys2ii, q_neC, q_augSub, q_shr, eq_self, cnd_dt, cnd_df, Int.toNat_natCast, lenF_str, modD_int, divD_int, addD_str, addD_lst, slD_str, revD_str, ixD_str, ixD_str1, ixD_strmod, rng1_int, rng2_int, mulD_intl, mulD_intr, intF_dig, q_comp0, q_compC])
local macro_rules | `(tactic| walk_at "evh") => `(tactic| try simp -implicitDefEqProofs -dsimp (disch := walk_at "dis") only [↓q_seq, ↓q_seqK_nx, ↓q_seqK_rt, ↓q_seqK_rn, ↓q_seqK_bk, ↓q_seqK_ct, ↓q_runD, ↓q_runN, q_runK_rt, q_runK_rn, q_runK_nx, q_runKN_rn, ↓q_set, ↓q_setN, ↓q_ret, ↓q_retN, ↓q_drop, ↓q_if, ↓q_unp, q_unpK, ↓q_par, q_parK, ↓q_app, q_appK, ↓q_aug, q_augK, q_addF_int, q_addF_str, q_guard, ↓q_for, ↓q_forR, q_loopK_nx, q_loopK_ct, q_loopK_bk, q_loopK_rt, q_loopK_rn, ↓q_sNil, ↓q_e2, ↓q_t2, ↓q_e1, ↓q_cst, ↓q_aN, ↓q_aC, ↓q_call, ↓q_callN, ↓q_eN, ↓q_nLst, q_lstK, ↓q_eTup, q_tupK, ↓q_tVal, ↓q_tNot, ↓q_tAnd, ↓q_tOr, ↓q_eAnd, ↓q_eOr, ↓q_eNot, ↓q_eIf, ↓q_iAny, ↓q_iRg1, ↓q_iRg2, ↓q_iEnum, ↓q_nLc, ↓q_cT, ↓q_oN, ↓q_oS, ↓q_eSl, ↓q_eChain, ↓q_tBl, ↓q_eMake, ↓q_eMeth, ↓q_nMeth, ↓q_n1M, ↓q_iSeq, q_selK, q_self, ↓q_iTwo, ↓q_iTwoS, q_two2s, q_two2, ↓q_ext, q_extK, ↓q_nLc2, q_count, q_inE, q_notInE, q_is_non, q_is_str, q_is_int, q_is_tup, q_is_lst, q_isnt_non, q_isnt_str, q_isnt_int, q_isnt_tup, q_isnt_lst, q_list_l, q_list_t, q_tuple_l, q_tuple_t, q_max2, q_min2, q_sum, q_ixF_s, q_ixF_l, q_ixF_t, q_ixF_b, q_inF_s, q_inF_l, q_inF_t, q_lenG_s, q_lenG_l, q_lenG_t, q_lenG_d, q_lenG_dt, ↓q_setD, ↓q_dput, q_dputK, q_keyI, q_keyS, q_seeT, q_toDv, q_toDl, q_toDk, q_toDt, q_toDs0, q_toDs1, q_toDsm, q_fls0, q_fls1, q_flv, q_fll, q_flk, q_flt, q_flsm, q_sloV, q_sloK, q_sloT, q_sloL, q_sloLl, ↓q_oV, ↓q_oL, ↓q_oC, ↓q_oaN, ↓q_oaC, ↓q_oLst, q_oLstK, ↓q_setO, ↓q_parO, q_parOK, ↓q_parO3, q_parO3K, ↓q_appAt, q_appAtK, q_appAtK2, q_flatS, q_flatI, q_flatS2, q_mapv0, q_sloL0, bnd_ret, bnd_assoc, bnd_assoc', bnd_r, cnd_t, cnd_f, fail_bnd, bind_bnd, str01, List.cons.injEq, and_true, decide_true, decide_false, cut_toN, cut_fromN, cut_from1N, cut_to1N, cut_to1, cut_to2, cut_to3, cut_from1, cut_toM1, cut_fromM1, DL.startD, List.map_cons, List.map_nil, List.length_cons, List.length_nil, Nat.reduceAdd, Nat.reduceSub, List.replicate, List.cons_append, List.nil_append, view_eq, viewAt_cons, viewAt_nil, List.contains_cons, List.contains_nil, Nat.reduceBEq, Bool.or_true, Bool.or_false, Bool.true_or, Bool.false_or, if_true, Bool.false_eq_true, if_false, Option.map_some, Option.map_none, see_val, see_own, rd_0, rd_1, rd_2, rd_3, rd_4, rd_5, rd_6, rd_7, rd_8, rd_9, rd_10, rd_11, rd_12, rd_13, rd_14, rd_15, rd_16, rd_17, rd_18, rd_19, rd_20, rd_21, rd_22, rd_23, rd_24, rd_25, rd_26, rd_27, rd_28, rd_29, rd_30, rd_31, rd_32, rd_33, rd_34, rd_35, rd_36, rd_37, rd_38, rd_39, rd_40, rd_41, rd_42, rd_43, rd_44, rd_45, Int.reduceToNat, flat_int, flat_str, flat_bl, flat_non, flat_bag, flat_lst, flat_tup, flat_obj, List.all_cons, List.all_nil, Bool.and_true, Bool.true_and, Bool.and_false, Bool.false_and, keepIf_t, keepIf_f, frz_eq, frzAt_cons, frzAt_nil, List.set_cons_succ, List.set_cons_zero, subD_int, addD_int, negD_int, asI_int, asB_bl, truD_bl, lenF_lst, lenF_tup, intF_int, intF_bl, absF_int, ltD_int, leD_int, gtD_int, geD_int, eqD_int, eqD_str, neD_int, neD_str, inD_str, notInD_str, slD_lst, slD_scr, revD_lst, itemsD_lst, itemsD_tup, itemsD_str, Bool.not_true, Bool.not_false, ixD_l, ixD_t, ofSome, atI_0, atI_1, atI_2, atI_3, atI_4, atI_app, slotD_obj, propD_obj, propN_obj, isC_obj, get0, get1, get2, get3, getS, bName_eq, bTup_eq, bCons_eq, bNil_eq, setAll2_cons, setAll2_nil, setAllD_cons, setAllD_nil, wipeD_cons, wipeD_nil, isi_str_str, isi_int_int, isi_bool_int, List.getElem?_cons_zero, List.getElem?_cons_succ, ↓q_nIf, q_minG2, q_minGs, q_eqC, q_isiO, q_isiO_i, q_isiO_s, q_isiO_n, q_isiO_l, q_isiO_t, q_cndN, q_szL, q_sloL1, q_sloL2, q_sloL3, q_c0, q_c1, q_c2, q_c3, q_c4, q_c5, q_c6, q_c7, q_c8, q_c9, q_c10, q_c11, q_c12, q_c13, q_c14, q_c15, q_c16, q_eqBl, q_neBl, q_bin4, q_sumL, q_disp, q_prs0, q_prs1, q_dc, q_tput, q_tputK, q_inT, q_inTK, q_getT, q_getTK, q_keysI1, q_keys2s, q_keys2i, q_keys2ii, q_neC, q_augSub, q_shr, eq_self, cnd_dt, cnd_df, Int.toNat_natCast, lenF_str, modD_int, divD_int, addD_str, addD_lst, slD_str, revD_str, ixD_str, ixD_str1, ixD_strmod, rng1_int, rng2_int, mulD_intl, mulD_intr, intF_dig, *])
local macro_rules | `(tactic| walk_at "env") => `(tactic| try simp -implicitDefEqProofs only [List.all_cons, List.all_nil, Bool.and_true, Bool.true_and, setAll2_cons, setAll2_nil, bName_eq, env0, List.replicate, flat_int, flat_str, flat_bl, flat_non, flat_bag, flat_lst, flat_tup, flat_obj, keepIf_t, keepIf_f, frz_eq, frzAt_cons, frzAt_nil, List.contains_cons, List.contains_nil, Nat.reduceBEq, Nat.reduceAdd, Bool.or_true, Bool.or_false, Bool.true_or, if_true, Bool.false_eq_true, if_false, Option.map_some, Option.map_none, see_val, see_own, List.set_cons_succ, List.set_cons_zero])
/-! _law_my_rule -/
def F__law_my_rule : Env2 → M Out :=
  (retM [0] (eMake 0 ruleI (aC (e2 ixF (rdEnv 0) (cst (.int 0))) (aC (e2 ixF (rdEnv 0) (cst (.int 1))) aN))))
def R__law_my_rule : List D → M D := runD 1 F__law_my_rule
/-! _law_after -/
def F__law_after : Env2 → M Out :=
  (seqM (forRM [2] (iRg1 (aC (rdEnv 2) aN)) (bName 3)
  (setM 1 [0, 1] (eCall R__law_beat (aC (rdEnv 0) (aC (rdEnv 1) aN)))))
  (retM [1] (rdEnv 1)))
def R__law_after : List D → M D := runD 4 F__law_after
/-! _law_my_is_shape -/
def F__law_my_is_shape : Env2 → M Out :=
  (retM [0, 1, 2, 3] (e2 (eqD false) (eCall R__law_after (aC (rdEnv 0) (aC (rdEnv 1) (aC (rdEnv 3) aN)))) (eCall R__law_turned (aC (rdEnv 1) (aC (rdEnv 2) aN)))))
def R__law_my_is_shape : List D → M D := runD 4 F__law_my_is_shape
/-! _law_paces_2 -/
def F__law_paces_2 : Env2 → M Out :=
  (seqM (parOM 4 5 [1] (oaC (oL (nLst aN)) (oaC (oV (rdEnv 1)) oaN)))
  (seqM (forRM [2] (iRg2 (aC (cst (.int 1)) (aC (e2 addD (rdEnv 2) (cst (.int 1))) aN))) (bName 3)
  (seqM (setM 5 [0, 5] (eCall R__law_beat (aC (rdEnv 0) (aC (rdEnv 5) aN))))
  (setM 4 [1, 3, 4, 5, 6] (e2 addD (rdEnv 4) (eN (nLc [6] (iRg1 (aC (eCall lenG (aC (rdEnv 1) aN)) aN)) (bName 6) (t2 (eqD false) (eCall R__law_turned (aC (rdEnv 1) (aC (rdEnv 6) aN))) (rdEnv 5)) (eTup (aC (rdEnv 3) (aC (rdEnv 6) aN)))))))))
  (retOwn 4)))
def R__law_paces_2 : List D → M D := runD 7 F__law_paces_2
/-! Rule___eq__ -/
def F_Rule___eq__ : Env2 → M Out :=
  (retM [0, 1] (eAnd (e1 (isiO 0) (rdEnv 1)) (eAnd (e2 (eqD false) (e1 (slotD 0 1) (rdEnv 0)) (e1 (slotD 0 1) (rdEnv 1))) (e2 (eqD false) (e1 (slotD 0 0) (rdEnv 0)) (e1 (slotD 0 0) (rdEnv 1))))))
def R_Rule___eq__ : List D → M D := runD 2 F_Rule___eq__
/-! paces_2 -/
def F_paces_2 : Env2 → M Out :=
  (seqM (parOM 4 5 [1] (oaC (oL (nLst aN)) (oaC (oV (rdEnv 1)) oaN)))
  (seqM (forRM [2] (iRg2 (aC (cst (.int 1)) (aC (e2 addD (rdEnv 2) (cst (.int 1))) aN))) (bName 3)
  (seqM (setM 5 [0, 5] (eMeth 0 R_Rule_ring_after (rdEnv 0) (aC (rdEnv 5) aN)))
  (extM 4 [1, 3, 5, 6] (nLc [6] (iRg1 (aC (eCall lenG (aC (rdEnv 1) aN)) aN)) (bName 6) (t2 (eqD false) (eCall R_turned_by (aC (rdEnv 1) (aC (rdEnv 6) aN))) (rdEnv 5)) (eTup (aC (rdEnv 3) (aC (rdEnv 6) aN)))))))
  (retOwn 4)))
def R_paces_2 : List D → M (List D) := runN 7 F_paces_2
/-! is_shape -/
def F_is_shape : Env2 → M Out :=
  (retM [0, 1, 2, 3] (e2 (eqD false) (eCall R_after (aC (rdEnv 0) (aC (rdEnv 1) (aC (rdEnv 3) aN)))) (eCall R_turned_by (aC (rdEnv 1) (aC (rdEnv 2) aN)))))
def R_is_shape : List D → M D := runD 4 F_is_shape
/-! is_basic_2 -/
def F_is_basic_2 : Env2 → M Out :=
  (retM [0, 1, 2, 3] (eAnd (eCall R_is_shape (aC (rdEnv 0) (aC (rdEnv 1) (aC (rdEnv 2) (aC (rdEnv 3) aN))))) (e2 (eqD false) (eN (nCall R_paces_2 (aC (rdEnv 0) (aC (rdEnv 1) (aC (e2 subD (rdEnv 3) (cst (.int 1))) aN))))) (eN (nLst aN)))))
def R_is_basic_2 : List D → M D := runD 4 F_is_basic_2
theorem take_n {p : Addr} {m : Int} (h1 : 1 ≤ m) (h2 : m < 1073741824) : Tot p (R__law_take [.bag p, .int m]) fun d => ∃ n : Nat, d = .int (n : Int) ∧ (n : Int) < m :=
  (take_tot h1 h2).mono fun d ⟨v, e, v0, v1⟩ => ⟨v.toNat, by rw [e, Int.toNat_of_nonneg v0], by omega⟩
theorem my_rule_is {t : List Nat} {r : Nat} (ht : BinT t) (hr : r ≤ 2) : R__law_my_rule [.tup [.str t, .int (r : Int)]] = M.ret (rul t r) := by
  simp only [R__law_my_rule, F__law_my_rule]
  walk_at "ev"
  rw [make_rule ht hr]
  walk_at "ev"
theorem rule_eq_is (t u : List Nat) (r s : Nat) : R_Rule___eq__ [rul t r, rul u s] = M.ret (.bl (decide (t = u) && decide (r = s))) := by
  simp only [R_Rule___eq__, F_Rule___eq__]
  walk_at "ev"
  by_cases h : t = u
  · simp only [h, decide_true]
    walk_at "ev"
    congr 2
    simp [Int.ofNat_inj]
  · simp only [h, decide_false]
    walk_at "ev"
theorem law_after_is {t : List Nat} {r n : Nat} {x : List Nat} (ht : BinT t) (hr : r ≤ 2) (hz : x.length ≤ 10000) (hx : Sg r x) (hn : n ≤ 100000) : R__law_after [.tup [.str t, .int (r : Int)], .str x, .int (n : Int)] = M.ret (.str (itN (ringL t r) n x)) := by
  simp only [R__law_after, F__law_after]
  walk_at "ev"
  refine Ev.eq (ev_loop (fun i ρ => ∃ s, ρ = [some (.val (.tup [.str t, .int (r : Int)])), some (.val (.str (itN (ringL t r) i x))), some (.val (.int (n : Int))), s]) ⟨_, rfl⟩ ?_ ?_)
  · rintro i d ρ hd ⟨s, rfl⟩
    obtain ⟨hi, rfl⟩ := get_rmap hd
    refine ⟨_, rfl, ?_⟩
    walk_at "env"
    walk_at "ev"
    rw [law_beat_is ht hr (by rw [itN_ring_len]; omega) (itN_ring_sg ht _ hx)]
    walk_at "ev"
    exact Ev.ret ⟨_, .inl rfl, _, by rw [itN_succ]⟩
  · rintro ρ ⟨s, rfl⟩
    walk_at "ev"
    exact Ev.ret (by simp)
theorem law_shape_is {t : List Nat} {r n : Nat} {x : List Nat} {p : Int} (ht : BinT t) (hr : r ≤ 2) (h0 : 0 < x.length) (hz : x.length ≤ 1000) (hx : Sg r x) (hn : n ≤ 100000) : R__law_my_is_shape [.tup [.str t, .int (r : Int)], .str x, .int p, .int (n : Int)] = M.ret (.bl (decide (itN (ringL t r) n x = turnL x p))) := by
  simp only [R__law_my_is_shape, F__law_my_is_shape]
  walk_at "ev"
  rw [law_after_is ht hr (by omega) hx hn]
  walk_at "ev"
  rw [turned_law p h0 hz]
  walk_at "ev"
theorem is_shape_is {t : List Nat} {r n : Nat} {x : List Nat} {p : Int} (ht : BinT t) (hr : r ≤ 2) (h0 : 0 < x.length) (hz : x.length ≤ 1000) (hx : Sg r x) (hn : n ≤ 100000) : R_is_shape [rul t r, .str x, .int p, .int (n : Int)] = M.ret (.bl (decide (itN (ringL t r) n x = turnL x p))) := by
  simp only [R_is_shape, F_is_shape]
  walk_at "ev"
  rw [after_is ht hr h0 (by omega) hx hn]
  walk_at "ev"
  rw [turned_by_is p h0 hz]
  walk_at "ev"
def pacK (x y : List Nat) (q : Nat) : List D := ((List.range x.length).filter fun (p : Nat) => decide (turnL x (p : Int) = y)).map fun (p : Nat) => D.tup [.int (q : Int), .int (p : Int)]
def pacL (f : List Nat → List Nat) (x : List Nat) (n : Nat) : List D := (List.range n).flatMap fun i => pacK x (itN f (i + 1) x) (i + 1)
theorem pacL_succ (f : List Nat → List Nat) (x : List Nat) (n : Nat) : pacL f x (n + 1) = pacL f x n ++ pacK x (itN f (n + 1) x) (n + 1) := by
  unfold pacL
  rw [List.range_succ, List.flatMap_append]
  simp
theorem pacK_len (x y : List Nat) (q : Nat) : (pacK x y q).length ≤ x.length := by
  unfold pacK
  rw [List.length_map]
  exact Nat.le_trans (List.length_filter_le _ _) (by simp)
theorem pacL_len (f : List Nat → List Nat) (x : List Nat) : ∀ n, (pacL f x n).length ≤ n * x.length
  | 0 => by simp [pacL]
  | n + 1 => by
    rw [pacL_succ, List.length_append]
    have := pacL_len f x n
    have := pacK_len x (itN f (n + 1) x) (n + 1)
    have : (n + 1) * x.length = n * x.length + x.length := Nat.succ_mul _ _
    omega
theorem pacL_mem {f : List Nat → List Nat} {x : List Nat} {n : Nat} {d : D} : d ∈ pacL f x n ↔ ∃ i p : Nat, i < n ∧ p < x.length ∧ turnL x (p : Int) = itN f (i + 1) x ∧ d = .tup [.int ((i + 1 : Nat) : Int), .int (p : Int)] := by
  unfold pacL pacK
  simp only [List.mem_flatMap, List.mem_range, List.mem_map, List.mem_filter, decide_eq_true_eq]
  constructor
  · rintro ⟨i, hi, p, ⟨hp, h⟩, rfl⟩
    exact ⟨i, p, hi, hp, h, rfl⟩
  · rintro ⟨i, p, hi, hp, h, rfl⟩
    exact ⟨i, hi, p, ⟨hp, h⟩, rfl⟩
theorem pacL_okd (f : List Nat → List Nat) {x : List Nat} {n : Nat} (hx : x.length ≤ 40) (hn : n ≤ 100) : Okd 2 140003 (.lst (pacL f x n)) := by
  refine (Okd.lst (k := 1) (w := 33) fun d hd => ?_).mono (by omega) ?_
  · obtain ⟨i, p, hi, hp, _, rfl⟩ := pacL_mem.mp hd
    refine (Okd.tup (k := 0) (w := 13) fun d hd => ?_).mono (by omega) (by simp)
    simp only [List.mem_cons, List.not_mem_nil, or_false] at hd
    rcases hd with rfl | rfl
    · exact int_okd (by omega) (by omega)
    · exact int_okd (by omega) (by omega)
  · have h1 := pacL_len f x n
    have h2 : n * x.length ≤ 100 * 40 := Nat.mul_le_mul hn hx
    omega
theorem pacL_ok (f : List Nat → List Nat) {x : List Nat} {n : Nat} (hx : x.length ≤ 40) (hn : n ≤ 100) : okA (.lst (pacL f x n)) = true := okA_of (pacL_okd f hx hn) (by omega) (by omega)
theorem paces_is {t : List Nat} {r n : Nat} {x : List Nat} (ht : BinT t) (hr : r ≤ 2) (h0 : 0 < x.length) (hz : x.length ≤ 40) (hx : Sg r x) (hn : n ≤ 100) : R_paces_2 [rul t r, .str x, .int (n : Int)] = M.ret (pacL (ringL t r) x n) := by
  simp only [R_paces_2, F_paces_2]
  walk_at "ev"
  refine Ev.eq (ev_loop (fun i ρ => ∃ s s2, ρ = [some (.val (rul t r)), some (.val (.str x)), some (.val (.int (n : Int))), s, some (.own (pacL (ringL t r) x i)), some (.val (.str (itN (ringL t r) i x))), s2]) ⟨_, _, rfl⟩ ?_ ?_)
  · rintro i d ρ hd ⟨s, s2, rfl⟩
    obtain ⟨hi, rfl⟩ := get_rmap hd
    refine ⟨_, rfl, ?_⟩
    walk_at "env"
    walk_at "ev"
    rw [ring_after_is ht.1 hr (by rw [itN_ring_len]; omega) (by rw [itN_ring_len]; omega) (itN_ring_sg ht _ hx), ← itN_succ (ringL t r)]
    walk_at "ev"
    rw [compM_filterI (l := fun (k : Nat) => [(6, D.int (0 + (k : Nat)))]) (k := fun (k : Nat) => decide (turnL x (k : Int) = itN (ringL t r) (i + 1) x)) (y := fun (k : Nat) => D.tup [.int ((i + 1 : Nat) : Int), .int (k : Int)]) (fun k hk => ⟨rfl, ?_, ?_⟩)]
    · have h1 := pacK_len x (itN (ringL t r) (i + 1) x) (i + 1)
      have h2 := pacL_len (ringL t r) x i
      have h3 : i * x.length ≤ 100 * 40 := Nat.mul_le_mul (by omega) hz
      unfold pacK at h1
      walk_at "ev"
      generalize hb : List.all _ D.flat = kb
      cases kb <;>
      · walk_at "ev"
        rw [pacL_succ]
        exact Ev.ret ⟨_, .inl rfl, _, _, rfl⟩
    · walk_at "ev"
      rw [show (0 + (k : Int)) = (k : Int) by omega, turned_by_is _ h0 (by omega)]
      walk_at "ev"
    · walk_at "ev"
      rw [show (0 + (k : Int)) = (k : Int) by omega, show (1 + (i : Int)) = ((i + 1 : Nat) : Int) by omega]
  · rintro ρ ⟨s, s2, rfl⟩
    rw [List.length_map, List.length_range, show ((n : Int) + 1 - 1).toNat = n by omega]
    walk_at "ev"
    exact Ev.ret rfl
theorem law_paces_is {t : List Nat} {r n : Nat} {x : List Nat} (ht : BinT t) (hr : r ≤ 2) (h0 : 0 < x.length) (hz : x.length ≤ 40) (hx : Sg r x) (hn : n ≤ 100) : R__law_paces_2 [.tup [.str t, .int (r : Int)], .str x, .int (n : Int)] = M.ret (.lst (pacL (ringL t r) x n)) := by
  simp only [R__law_paces_2, F__law_paces_2]
  walk_at "ev"
  refine Ev.eq (ev_loop (fun i ρ => ∃ s s2 z, (z = .own (pacL (ringL t r) x i) ∨ z = .val (.lst (pacL (ringL t r) x i))) ∧ ρ = [some (.val (.tup [.str t, .int (r : Int)])), some (.val (.str x)), some (.val (.int (n : Int))), s, some z, some (.val (.str (itN (ringL t r) i x))), s2]) ⟨_, _, _, .inl rfl, rfl⟩ ?_ ?_)
  · rintro i d ρ hd ⟨s, s2, z, hz2, rfl⟩
    have hz2 : z.see = .lst (pacL (ringL t r) x i) := by rcases hz2 with rfl | rfl <;> rfl
    obtain ⟨hi, rfl⟩ := get_rmap hd
    refine ⟨_, rfl, ?_⟩
    walk_at "env"
    walk_at "ev"
    rw [law_beat_is ht hr (by rw [itN_ring_len]; omega) (itN_ring_sg ht _ hx), ← itN_succ (ringL t r)]
    walk_at "ev"
    rw [compM_filterI (l := fun (k : Nat) => [(6, D.int (0 + (k : Nat)))]) (k := fun (k : Nat) => decide (turnL x (k : Int) = itN (ringL t r) (i + 1) x)) (y := fun (k : Nat) => D.tup [.int ((i + 1 : Nat) : Int), .int (k : Int)]) (fun k hk => ⟨rfl, ?_, ?_⟩)]
    · have h1 := pacK_len x (itN (ringL t r) (i + 1) x) (i + 1)
      have h2 := pacL_len (ringL t r) x i
      have h3 : i * x.length ≤ 100 * 40 := Nat.mul_le_mul (by omega) hz
      unfold pacK at h1
      rw [hz2]
      walk_at "ev"
      refine Ev.ret ⟨_, .inl rfl, _, _, _, .inr ?_, rfl⟩
      rw [pacL_succ]
      rfl
    · walk_at "ev"
      rw [show (0 + (k : Int)) = (k : Int) by omega, turned_law _ h0 (by omega)]
      walk_at "ev"
    · walk_at "ev"
      rw [show (0 + (k : Int)) = (k : Int) by omega, show (1 + (i : Int)) = ((i + 1 : Nat) : Int) by omega]
  · rintro ρ ⟨s, s2, z, hz2, rfl⟩
    rw [List.length_map, List.length_range, show ((n : Int) + 1 - 1).toNat = n by omega] at hz2
    rcases hz2 with rfl | rfl
    · walk_at "ev"
      exact Ev.ret rfl
    · walk_at "ev"
      exact Ev.ret rfl
theorem is_basic_is {t : List Nat} {r n : Nat} {x : List Nat} {p : Int} (ht : BinT t) (hr : r ≤ 2) (h0 : 0 < x.length) (hz : x.length ≤ 40) (hx : Sg r x) (hn : n ≤ 100) : R_is_basic_2 [rul t r, .str x, .int p, .int ((n + 1 : Nat) : Int)] = M.ret (.bl (decide (itN (ringL t r) (n + 1) x = turnL x p) && (pacL (ringL t r) x n).isEmpty)) := by
  simp only [R_is_basic_2, F_is_basic_2]
  walk_at "ev"
  rw [is_shape_is ht hr h0 (by omega) hx (by omega)]
  walk_at "ev"
  by_cases h : itN (ringL t r) (n + 1) x = turnL x p
  · simp only [h, decide_true]
    walk_at "ev"
    rw [show (((n + 1 : Nat) : Int) - 1) = (n : Int) by omega, paces_is ht hr h0 hz hx hn]
    walk_at "ev"
    rw [eqD_nil false (pacL_ok _ hz hn)]
    rfl
  · simp only [h, decide_false]
    walk_at "ev"
end LW
set_option Elab.async false
set_option maxRecDepth 100000
set_option autoImplicit false
set_option linter.unusedVariables false
set_option maxHeartbeats 4000000
namespace LW
open PySem L2 PySem.Spec PyProof.Rows DL
theorem ring_is {t : List Nat} {r : Nat} {x : List Nat} (ht : BinT t) (hr : r ≤ 2) (h0 : 0 < x.length) (hz : x.length ≤ 10000) (hx : Sg r x) : R_Rule_ring_after [rul t r, .str x] = M.ret (.str (ringL t r x)) := ring_after_is ht.1 hr h0 hz hx
theorem turn_rev {x : List Nat} (h0 : 0 < x.length) (p : Int) : (turnL x p).reverse = turnL x.reverse (-p) := by
  have h1 : 0 < (turnL x p).length := by rw [turnL_len]; exact h0
  have h2 : 0 < x.reverse.length := by rw [List.length_reverse]; exact h0
  refine rat_ext (by rw [List.length_reverse, turnL_len, turnL_len, List.length_reverse]) fun i => ?_
  rw [rat_rev h1, rat_turn h0, rat_turn h2, rat_rev h0]
  congr 1
  omega
theorem turn_inj {x y : List Nat} (hx : 0 < x.length) (hy : 0 < y.length) {p : Int} (h : turnL x p = turnL y p) : x = y := by
  have := congrArg (fun z => turnL z (-p)) h
  rw [turn_turn hx, turn_turn hy, show p + -p = 0 by omega, turn_zero, turn_zero] at this
  exact this
theorem repL_succ {α : Type} (x : List α) (k : Nat) : repL x (k + 1) = x ++ repL x k := by
  simp [repL, List.replicate_succ]
theorem repL_len {α : Type} (x : List α) : ∀ k, (repL x k).length = k * x.length
  | 0 => by simp [repL]
  | k + 1 => by rw [repL_succ, List.length_append, repL_len x k, Nat.succ_mul, Nat.add_comm]
theorem rep_get {x : List Nat} : ∀ {k j : Nat}, j < k * x.length → (repL x k).getD j 0 = x.getD (j % x.length) 0
  | 0, j, h => by omega
  | k + 1, j, h => by
    rw [Nat.succ_mul] at h
    rw [repL_succ, List.getD_eq_getElem?_getD, List.getD_eq_getElem?_getD]
    by_cases hj : j < x.length
    · rw [List.getElem?_append_left hj, Nat.mod_eq_of_lt hj]
    · rw [List.getElem?_append_right (by omega), ← List.getD_eq_getElem?_getD, rep_get (k := k) (by omega), ← List.getD_eq_getElem?_getD, Nat.mod_eq_sub_mod (a := j) (by omega)]
theorem rat_rep {x : List Nat} (h0 : 0 < x.length) {k : Nat} (hk : 0 < k) (i : Int) : rat (repL x k) i = rat x i := by
  have hp : 0 < k * x.length := Nat.mul_pos hk h0
  unfold rat
  rw [repL_len]
  have h1 := Int.emod_nonneg i (by omega : ((k * x.length : Nat) : Int) ≠ 0)
  have h2 := Int.emod_lt_of_pos i (by omega : (0 : Int) < ((k * x.length : Nat) : Int))
  rw [rep_get (by omega)]
  congr 1
  have h3 : (i % ((k * x.length : Nat) : Int)) % (x.length : Int) = i % (x.length : Int) := Int.emod_emod_of_dvd _ ⟨(k : Int), by rw [Int.natCast_mul, Int.mul_comm]⟩
  have h4 := Int.emod_nonneg i (by omega : ((x.length : Nat) : Int) ≠ 0)
  have h5 : (((i % ((k * x.length : Nat) : Int)).toNat % x.length : Nat) : Int) = (i % ((k * x.length : Nat) : Int)) % (x.length : Int) := by
    rw [Int.natCast_emod, Int.toNat_of_nonneg h1]
  omega
theorem ring_rep {t : List Nat} {r : Nat} {x : List Nat} (h0 : 0 < x.length) {k : Nat} (hk : 0 < k) : ringL t r (repL x k) = repL (ringL t r x) k := by
  have hp : 0 < k * x.length := Nat.mul_pos hk h0
  refine rat_ext (by rw [ringL_len, repL_len, repL_len, ringL_len]) fun i => ?_
  rw [rat_ring (by rw [repL_len]; exact hp), rat_rep h0 hk, rat_rep h0 hk, rat_rep h0 hk, rat_rep (by rw [ringL_len]; exact h0) hk, rat_ring h0]
theorem turn_rep {x : List Nat} (h0 : 0 < x.length) {k : Nat} (hk : 0 < k) (p : Int) : turnL (repL x k) p = repL (turnL x p) k := by
  have hp : 0 < k * x.length := Nat.mul_pos hk h0
  refine rat_ext (by rw [turnL_len, repL_len, repL_len, turnL_len]) fun i => ?_
  rw [rat_turn (by rw [repL_len]; exact hp), rat_rep h0 hk, rat_rep (by rw [turnL_len]; exact h0) hk, rat_turn h0]
theorem itN_rep {t : List Nat} {r : Nat} {x : List Nat} (h0 : 0 < x.length) {k : Nat} (hk : 0 < k) (n : Nat) : itN (ringL t r) n (repL x k) = repL (itN (ringL t r) n x) k :=
  itN_conj (f := ringL t r) (g := ringL t r) (φ := fun z => repL z k) (fun i => by rw [ring_rep (by rw [itN_ring_len]; exact h0) hk, ← itN_succ (ringL t r)]) n
theorem sg_rep {r : Nat} {x : List Nat} (h : Sg r x) : ∀ k, Sg r (repL x k)
  | 0 => by intro c hc; simp [repL] at hc
  | k + 1 => by rw [repL_succ]; exact sg_app h (sg_rep h k)
theorem itN_mir {t : List Nat} {r : Nat} {x : List Nat} (h0 : 0 < x.length) (n : Nat) : itN (ringL (mirT t) r) n x.reverse = (itN (ringL t r) n x).reverse :=
  itN_conj (f := ringL t r) (g := ringL (mirT t) r) (φ := List.reverse) (fun i => by rw [ring_mir (by rw [itN_ring_len]; exact h0), ← itN_succ (ringL t r)]) n
/-! ### shapes -/
def Shp (t : List Nat) (r : Nat) (x : List Nat) (p : Int) (q : Nat) : Prop := itN (ringL t r) q x = turnL x p
section
variable {t : List Nat} {r : Nat} {x : List Nat} {p : Int} {q : Nat}
theorem Shp.after (h0 : 0 < x.length) (h : Shp t r x p q) (n : Nat) : Shp t r (itN (ringL t r) n x) p q := by
  unfold Shp at h ⊢
  rw [← itN_add, Nat.add_comm, itN_add, h, itN_turn p n h0]
theorem Shp.turn (h0 : 0 < x.length) (h : Shp t r x p q) (v : Int) : Shp t r (turnL x v) p q := by
  unfold Shp at h ⊢
  rw [itN_turn v q h0, h, turn_turn h0, turn_turn h0, Int.add_comm]
theorem Shp.rep (h0 : 0 < x.length) (h : Shp t r x p q) {k : Nat} (hk : 0 < k) : Shp t r (repL x k) p q := by
  unfold Shp at h ⊢
  rw [itN_rep h0 hk, h, turn_rep h0 hk]
theorem Shp.mir (h0 : 0 < x.length) (h : Shp t r x p q) : Shp (mirT t) r x.reverse (-p) q := by
  unfold Shp at h ⊢
  rw [itN_mir h0, h, turn_rev h0]
theorem Shp.more (h0 : 0 < x.length) (h : Shp t r x p q) (k : Int) : Shp t r x (p + k * x.length) q := by
  unfold Shp at h ⊢
  rw [h]
  refine turn_mod h0 ?_
  rw [Int.add_mul_emod_self_right]
theorem Shp.add {p2 : Int} {q2 : Nat} (h0 : 0 < x.length) (h : Shp t r x p q) (h2 : Shp t r x p2 q2) : Shp t r x (p + p2) (q + q2) := by
  unfold Shp at h h2 ⊢
  rw [itN_add, h2, itN_turn p2 q h0, h, turn_turn h0]
theorem Shp.mul (h0 : 0 < x.length) (h : Shp t r x p q) : ∀ k : Nat, Shp t r x (p * k) (q * k)
  | 0 => by
    show itN (ringL t r) (q * 0) x = turnL x (p * 0)
    rw [Nat.mul_zero, Int.mul_zero, turn_zero]
    rfl
  | k + 1 => by
    have := (Shp.mul h0 h k).add h0 h
    rw [Nat.mul_succ, Int.natCast_add, Int.mul_add]
    simpa using this
theorem Shp.back (h0 : 0 < x.length) (h : Shp t r x p q) (hq : 0 < q) (n : Nat) : ∃ m, itN (ringL t r) (m + n) x = x := by
  have := h.mul h0 (x.length * n)
  unfold Shp at this
  have hm : n ≤ q * (x.length * n) := by
    have h1 : 1 * (1 * n) ≤ q * (x.length * n) := Nat.mul_le_mul hq (Nat.mul_le_mul h0 (Nat.le_refl n))
    omega
  refine ⟨q * (x.length * n) - n, ?_⟩
  rw [Nat.sub_add_cancel hm, this]
  have e : p * ((x.length * n : Nat) : Int) = 0 + p * n * x.length := by
    rw [Int.natCast_mul, Int.zero_add, Int.mul_comm (x.length : Int), Int.mul_assoc]
  rw [e, turn_mod h0 (Int.add_mul_emod_self_right _ _ _), turn_zero]
end
theorem pac_congr {f : List Nat → List Nat} {x y : List Nat} (hl : x.length = y.length) (h : ∀ (i : Nat) (p : Int), turnL x p = itN f (i + 1) x ↔ turnL y p = itN f (i + 1) y) (n : Nat) : pacL f x n = pacL f y n := by
  unfold pacL pacK
  rw [hl]
  congr 1
  funext i
  congr 1
  apply List.filter_congr
  intro k _
  rw [decide_eq_decide]
  exact h i k
theorem pac_turn {t : List Nat} {r : Nat} {x : List Nat} (h0 : 0 < x.length) (v : Int) (n : Nat) : pacL (ringL t r) (turnL x v) n = pacL (ringL t r) x n := by
  refine pac_congr (turnL_len x v) (fun i p => ?_) n
  rw [itN_turn v _ h0, turn_turn h0, Int.add_comm, ← turn_turn h0]
  refine ⟨fun h => turn_inj (by rw [turnL_len]; exact h0) (by rw [itN_ring_len]; exact h0) h, fun h => by rw [h]⟩
theorem pac_after {t : List Nat} {r : Nat} {x : List Nat} {p : Int} {q : Nat} (h0 : 0 < x.length) (h : Shp t r x p q) (hq : 0 < q) (k n : Nat) : pacL (ringL t r) (itN (ringL t r) k x) n = pacL (ringL t r) x n := by
  refine pac_congr (itN_ring_len t r k x) (fun i p => ?_) n
  rw [← itN_turn p k h0, ← itN_add, Nat.add_comm, itN_add]
  refine ⟨fun e => ?_, fun e => by rw [e]⟩
  obtain ⟨m, hm⟩ := h.back h0 hq k
  have e2 := congrArg (itN (ringL t r) m) e
  rw [← itN_add, ← itN_add, itN_turn p _ h0, hm] at e2
  rw [e2, ← itN_add, Nat.add_comm, itN_add, hm]
end LW
set_option Elab.async false
set_option maxRecDepth 100000
set_option autoImplicit false
set_option linter.unusedVariables false
set_option maxHeartbeats 4000000
namespace LW
open PySem L2 PySem.Spec PyProof.Rows DL
/-! all_stands -/
def F_all_stands : Env2 → M Out :=
  (seqM (setNM 2 [] (nLst (aC (cst (.str [])) aN)))
  (seqM (forRM [1] (iRg1 (aC (rdEnv 1) aN)) (bName 3)
  (setNM 2 [0, 2, 4, 5] (nLc2 [4, 5] [5] (iAny (rdEnv 2)) (bName 4) cT (iAny (rdEnv 0)) (bName 5) cT (e2 addD (rdEnv 4) (rdEnv 5)))))
  (retOwn 2)))
def R_all_stands : List D → M (List D) := runN 6 F_all_stands
/-! _law_my_all -/
def F__law_my_all : Env2 → M Out :=
  (seqM (setNM 2 [] (nLst (aC (cst (.str [])) aN)))
  (seqM (forRM [1] (iRg1 (aC (rdEnv 1) aN)) (bName 3)
  (setM 2 [0, 2, 4, 5] (eCall sumLF (aC (eN (nLc [4] (iAny (rdEnv 2)) (bName 4) cT (eN (nLc [5] (iAny (rdEnv 0)) (bName 5) cT (e2 addD (rdEnv 4) (rdEnv 5)))))) (aC (eN (nLst aN)) aN)))))
  (retOwn 2)))
def R__law_my_all : List D → M D := runD 6 F__law_my_all
/-! parted_after -/
def F_parted_after : Env2 → M Out :=
  (seqM (setM 3 [0, 1] (eCall minG (aC (e1 (propD 0 R_Rule_signs) (rdEnv 0)) (aC (e1 (propD 0 R_Rule_signs) (rdEnv 1)) aN))))
  (seqM (forRM [2] (iRg2 (aC (cst (.int 1)) (aC (e2 addD (e2 mulD (cst (.int 2)) (rdEnv 2)) (cst (.int 2))) aN))) (bName 4)
  (forA [3, 4] (iAny (eN (nCall R_all_stands (aC (rdEnv 3) (aC (rdEnv 4) aN))))) (bName 5)
  (ifM [0, 1, 2, 5] (t2 (eqD true) (eCall R_after (aC (rdEnv 0) (aC (rdEnv 5) (aC (rdEnv 2) aN)))) (eCall R_after (aC (rdEnv 1) (aC (rdEnv 5) (aC (rdEnv 2) aN)))))
  (retM [5] (rdEnv 5))
  sNil)))
  (retM [] (cst .non))))
def R_parted_after : List D → M D := runD 6 F_parted_after
local macro_rules | `(tactic| walk_at "dis") => `(tactic| first | assumption | omega | (simp only [List.length_map, List.length_range, List.length_append, List.length_cons, List.length_nil, List.length_reverse, List.length_take, List.length_drop, List.length_replicate, List.length_singleton]; omega) | (simp; done))
local macro_rules | `(tactic| walk_at "ev") => `(tactic| try simp -implicitDefEqProofs -dsimp (disch := walk_at "dis") only [after_is, rule_signs, ↓q_seq, ↓q_seqK_nx, ↓q_seqK_rt, ↓q_seqK_rn, ↓q_seqK_bk, ↓q_seqK_ct, ↓q_runD, ↓q_runN, q_runK_rt, q_runK_rn, q_runK_nx, q_runKN_rn, ↓q_set, ↓q_setN, ↓q_ret, ↓q_retN, ↓q_drop, ↓q_if, ↓q_unp, q_unpK, ↓q_par, q_parK, ↓q_app, q_appK, ↓q_aug, q_augK, q_addF_int, q_addF_str, q_guard, ↓q_for, ↓q_forR, q_loopK_nx, q_loopK_ct, q_loopK_bk, q_loopK_rt, q_loopK_rn, ↓q_sNil, ↓q_e2, ↓q_t2, ↓q_e1, ↓q_cst, ↓q_aN, ↓q_aC, ↓q_call, ↓q_callN, ↓q_eN, ↓q_nLst, q_lstK, ↓q_eTup, q_tupK, ↓q_tVal, ↓q_tNot, ↓q_tAnd, ↓q_tOr, ↓q_eAnd, ↓q_eOr, ↓q_eNot, ↓q_eIf, ↓q_iAny, ↓q_iRg1, ↓q_iRg2, ↓q_iEnum, ↓q_nLc, ↓q_cT, ↓q_oN, ↓q_oS, ↓q_eSl, ↓q_eChain, ↓q_tBl, ↓q_eMake, ↓q_eMeth, ↓q_nMeth, ↓q_n1M, ↓q_iSeq, q_selK, q_self, ↓q_iTwo, ↓q_iTwoS, q_two2s, q_two2, ↓q_ext, q_extK, ↓q_nLc2, q_count, q_inE, q_notInE, q_is_non, q_is_str, q_is_int, q_is_tup, q_is_lst, q_isnt_non, q_isnt_str, q_isnt_int, q_isnt_tup, q_isnt_lst, q_list_l, q_list_t, q_tuple_l, q_tuple_t, q_max2, q_min2, q_sum, q_ixF_s, q_ixF_l, q_ixF_t, q_ixF_b, q_inF_s, q_inF_l, q_inF_t, q_lenG_s, q_lenG_l, q_lenG_t, q_lenG_d, q_lenG_dt, ↓q_setD, ↓q_dput, q_dputK, q_keyI, q_keyS, q_seeT, q_toDv, q_toDl, q_toDk, q_toDt, q_toDs0, q_toDs1, q_toDsm, q_fls0, q_fls1, q_flv, q_fll, q_flk, q_flt, q_flsm, q_sloV, q_sloK, q_sloT, q_sloL, q_sloLl, ↓q_oV, ↓q_oL, ↓q_oC, ↓q_oaN, ↓q_oaC, ↓q_oLst, q_oLstK, ↓q_setO, ↓q_parO, q_parOK, ↓q_parO3, q_parO3K, ↓q_appAt, q_appAtK, q_appAtK2, q_flatS, q_flatI, q_flatS2, q_mapv0, q_sloL0, bnd_ret, bnd_assoc, bnd_assoc', bnd_r, cnd_t, cnd_f, fail_bnd, bind_bnd, str01, List.cons.injEq, and_true, decide_true, decide_false, cut_toN, cut_fromN, cut_from1N, cut_to1N, cut_to1, cut_to2, cut_to3, cut_from1, cut_toM1, cut_fromM1, DL.startD, List.map_cons, List.map_nil, List.length_cons, List.length_nil, Nat.reduceAdd, Nat.reduceSub, List.replicate, List.cons_append, List.nil_append, view_eq, viewAt_cons, viewAt_nil, List.contains_cons, List.contains_nil, Nat.reduceBEq, Bool.or_true, Bool.or_false, Bool.true_or, Bool.false_or, if_true, Bool.false_eq_true, if_false, Option.map_some, Option.map_none, see_val, see_own, rd_0, rd_1, rd_2, rd_3, rd_4, rd_5, rd_6, rd_7, rd_8, rd_9, rd_10, rd_11, rd_12, rd_13, rd_14, rd_15, rd_16, rd_17, rd_18, rd_19, rd_20, rd_21, rd_22, rd_23, rd_24, rd_25, rd_26, rd_27, rd_28, rd_29, rd_30, rd_31, rd_32, rd_33, rd_34, rd_35, rd_36, rd_37, rd_38, rd_39, rd_40, rd_41, rd_42, rd_43, rd_44, rd_45, Int.reduceToNat, flat_int, flat_str, flat_bl, flat_non, flat_bag, flat_lst, flat_tup, flat_obj, List.all_cons, List.all_nil, Bool.and_true, Bool.true_and, Bool.and_false, Bool.false_and, keepIf_t, keepIf_f, frz_eq, frzAt_cons, frzAt_nil, List.set_cons_succ, List.set_cons_zero, subD_int, addD_int, negD_int, asI_int, asB_bl, truD_bl, lenF_lst, lenF_tup, intF_int, intF_bl, absF_int, ltD_int, leD_int, gtD_int, geD_int, eqD_int, eqD_str, neD_int, neD_str, inD_str, notInD_str, slD_lst, slD_scr, revD_lst, itemsD_lst, itemsD_tup, itemsD_str, Bool.not_true, Bool.not_false, ixD_l, ixD_t, ofSome, atI_0, atI_1, atI_2, atI_3, atI_4, atI_app, slotD_obj, propD_obj, propN_obj, isC_obj, get0, get1, get2, get3, getS, bName_eq, bTup_eq, bCons_eq, bNil_eq, setAll2_cons, setAll2_nil, setAllD_cons, setAllD_nil, wipeD_cons, wipeD_nil, isi_str_str, isi_int_int, isi_bool_int, List.getElem?_cons_zero, List.getElem?_cons_succ, ↓q_nIf, q_minG2, q_minGs, q_eqC, q_isiO, q_isiO_i, q_isiO_s, q_isiO_n, q_isiO_l, q_isiO_t, q_cndN, q_szL, q_sloL1, q_sloL2, q_sloL3, q_c0, q_c1, q_c2, q_c3, q_c4, q_c5, q_c6, q_c7, q_c8, q_c9, q_c10, q_c11, q_c12, q_c13, q_c14, q_c15, q_c16, q_eqBl, q_neBl, q_bin4, q_sumL, q_disp, q_prs0, q_prs1, q_dc, q_tput, q_tputK, q_inT, q_inTK, q_getT, q_getTK, q_keysI1, q_keys2s, q_keys2i, q_keys2ii, q_neC, q_augSub, q_shr, eq_self, cnd_dt, cnd_df, Int.toNat_natCast, lenF_str, modD_int, divD_int, addD_str, addD_lst, slD_str, revD_str, ixD_str, ixD_str1, ixD_strmod, rng1_int, rng2_int, mulD_intl, mulD_intr, intF_dig])
local macro_rules | `(tactic| walk_at "evl") => `(tactic| try simp -implicitDefEqProofs -dsimp (disch := walk_at "dis") only [after_is, rule_signs, ↓q_seq, ↓q_seqK_nx, ↓q_seqK_rt, ↓q_seqK_rn, ↓q_seqK_bk, ↓q_seqK_ct, ↓q_runD, ↓q_runN, q_runK_rt, q_runK_rn, q_runK_nx, q_runKN_rn, ↓q_set, ↓q_setN, ↓q_ret, ↓q_retN, ↓q_drop, ↓q_if, ↓q_unp, q_unpK, ↓q_par, q_parK, ↓q_app, q_appK, ↓q_aug, q_augK, q_addF_int, q_addF_str, q_guard, ↓q_for, ↓q_forR, q_loopK_nx, q_loopK_ct, q_loopK_bk, q_loopK_rt, q_loopK_rn, ↓q_sNil, ↓q_e2, ↓q_t2, ↓q_e1, ↓q_cst, ↓q_aN, ↓q_aC, ↓q_call, ↓q_callN, ↓q_eN, ↓q_nLst, q_lstK, ↓q_eTup, q_tupK, ↓q_tVal, ↓q_tNot, ↓q_tAnd, ↓q_tOr, ↓q_eAnd, ↓q_eOr, ↓q_eNot, ↓q_eIf, ↓q_iAny, ↓q_iRg1, ↓q_iRg2, ↓q_iEnum, ↓q_nLc, ↓q_cT, ↓q_oN, ↓q_oS, ↓q_eSl, ↓q_eChain, ↓q_tBl, ↓q_eMake, ↓q_eMeth, ↓q_nMeth, ↓q_n1M, ↓q_iSeq, q_selK, q_self, ↓q_iTwo, ↓q_iTwoS, q_two2s, q_two2, ↓q_ext, q_extK, ↓q_nLc2, q_count, q_inE, q_notInE, q_is_non, q_is_str, q_is_int, q_is_tup, q_is_lst, q_isnt_non, q_isnt_str, q_isnt_int, q_isnt_tup, q_isnt_lst, q_list_l, q_list_t, q_tuple_l, q_tuple_t, q_max2, q_min2, q_sum, q_ixF_s, q_ixF_l, q_ixF_t, q_ixF_b, q_inF_s, q_inF_l, q_inF_t, q_lenG_s, q_lenG_l, q_lenG_t, q_lenG_d, q_lenG_dt, ↓q_setD, ↓q_dput, q_dputK, q_keyI, q_keyS, q_seeT, q_toDv, q_toDl, q_toDk, q_toDt, q_toDs0, q_toDs1, q_toDsm, q_fls0, q_fls1, q_flv, q_fll, q_flk, q_flt, q_flsm, q_sloV, q_sloK, q_sloT, q_sloL, q_sloLl, ↓q_oV, ↓q_oL, ↓q_oC, ↓q_oaN, ↓q_oaC, ↓q_oLst, q_oLstK, ↓q_setO, ↓q_parO, q_parOK, ↓q_parO3, q_parO3K, ↓q_appAt, q_appAtK, q_appAtK2, q_flatS, q_flatI, q_flatS2, q_mapv0, q_sloL0, bnd_ret, bnd_assoc, bnd_assoc', bnd_r, cnd_t, cnd_f, fail_bnd, bind_bnd, str01, List.cons.injEq, and_true, decide_true, decide_false, cut_toN, cut_fromN, cut_from1N, cut_to1N, cut_to1, cut_to2, cut_to3, cut_from1, cut_toM1, cut_fromM1, DL.startD, List.map_cons, List.map_nil, List.length_cons, List.length_nil, Nat.reduceAdd, Nat.reduceSub, List.replicate, List.cons_append, List.nil_append, view_eq, viewAt_cons, viewAt_nil, List.contains_cons, List.contains_nil, Nat.reduceBEq, Bool.or_true, Bool.or_false, Bool.true_or, Bool.false_or, if_true, Bool.false_eq_true, if_false, Option.map_some, Option.map_none, see_val, see_own, rd_0, rd_1, rd_2, rd_3, rd_4, rd_5, rd_6, rd_7, rd_8, rd_9, rd_10, rd_11, rd_12, rd_13, rd_14, rd_15, rd_16, rd_17, rd_18, rd_19, rd_20, rd_21, rd_22, rd_23, rd_24, rd_25, rd_26, rd_27, rd_28, rd_29, rd_30, rd_31, rd_32, rd_33, rd_34, rd_35, rd_36, rd_37, rd_38, rd_39, rd_40, rd_41, rd_42, rd_43, rd_44, rd_45, Int.reduceToNat, flat_int, flat_str, flat_bl, flat_non, flat_bag, flat_lst, flat_tup, flat_obj, List.all_cons, List.all_nil, Bool.and_true, Bool.true_and, Bool.and_false, Bool.false_and, keepIf_t, keepIf_f, frz_eq, frzAt_cons, frzAt_nil, List.set_cons_succ, List.set_cons_zero, subD_int, addD_int, negD_int, asI_int, asB_bl, truD_bl, lenF_lst, lenF_tup, intF_int, intF_bl, absF_int, ltD_int, leD_int, gtD_int, geD_int, eqD_int, eqD_str, neD_int, neD_str, inD_str, notInD_str, slD_lst, slD_scr, revD_lst, itemsD_lst, itemsD_tup, itemsD_str, Bool.not_true, Bool.not_false, ixD_l, ixD_t, ofSome, atI_0, atI_1, atI_2, atI_3, atI_4, atI_app, slotD_obj, propD_obj, propN_obj, isC_obj, get0, get1, get2, get3, getS, bName_eq, bTup_eq, bCons_eq, bNil_eq, setAll2_cons, setAll2_nil, setAllD_cons, setAllD_nil, wipeD_cons, wipeD_nil, isi_str_str, isi_int_int, isi_bool_int, List.getElem?_cons_zero, List.getElem?_cons_succ, ↓q_nIf, q_minG2, q_minGs, q_eqC, q_isiO, q_isiO_i, q_isiO_s, q_isiO_n, q_isiO_l, q_isiO_t, q_cndN, q_szL, q_sloL1, q_sloL2, q_sloL3, q_c0, q_c1, q_c2, q_c3, q_c4, q_c5, q_c6, q_c7, q_c8, q_c9, q_c10, q_c11, q_c12, q_c13, q_c14, q_c15, q_c16, q_eqBl, q_neBl, q_bin4, q_sumL, q_disp, q_prs0, q_prs1, q_dc, q_tput, q_tputK, q_inT, q_inTK, q_getT, q_getTK, q_keysI1, q_keys2s, q_keys2i, q_keys2ii, q_neC, q_augSub, q_shr, eq_self, cnd_dt, cnd_df, Int.toNat_natCast, lenF_str, modD_int, divD_int, addD_str, addD_lst, slD_str, revD_str, ixD_str, ixD_str1, ixD_strmod, rng1_int, rng2_int, mulD_intl, mulD_intr, intF_dig, q_loop0, q_loopN, q_comp0, q_compT, q_compC])
local macro_rules | `(tactic| walk_at "evc") => `(tactic| try simp -implicitDefEqProofs -dsimp (disch := walk_at "dis") only [after_is, rule_signs, ↓q_seq, ↓q_seqK_nx, ↓q_seqK_rt, ↓q_seqK_rn, ↓q_seqK_bk, ↓q_seqK_ct, ↓q_runD, ↓q_runN, q_runK_rt, q_runK_rn, q_runK_nx, q_runKN_rn, ↓q_set, ↓q_setN, ↓q_ret, ↓q_retN, ↓q_drop, ↓q_if, ↓q_unp, q_unpK, ↓q_par, q_parK, ↓q_app, q_appK, ↓q_aug, q_augK, q_addF_int, q_addF_str, q_guard, ↓q_for, ↓q_forR, q_loopK_nx, q_loopK_ct, q_loopK_bk, q_loopK_rt, q_loopK_rn, ↓q_sNil, ↓q_e2, ↓q_t2, ↓q_e1, ↓q_cst, ↓q_aN, ↓q_aC, ↓q_call, ↓q_callN, ↓q_eN, ↓q_nLst, q_lstK, ↓q_eTup, q_tupK, ↓q_tVal, ↓q_tNot, ↓q_tAnd, ↓q_tOr, ↓q_eAnd, ↓q_eOr, ↓q_eNot, ↓q_eIf, ↓q_iAny, ↓q_iRg1, ↓q_iRg2, ↓q_iEnum, ↓q_nLc, ↓q_cT, ↓q_oN, ↓q_oS, ↓q_eSl, ↓q_eChain, ↓q_tBl, ↓q_eMake, ↓q_eMeth, ↓q_nMeth, ↓q_n1M, ↓q_iSeq, q_selK, q_self, ↓q_iTwo, ↓q_iTwoS, q_two2s, q_two2, ↓q_ext, q_extK, ↓q_nLc2, q_count, q_inE, q_notInE, q_is_non, q_is_str, q_is_int, q_is_tup, q_is_lst, q_isnt_non, q_isnt_str, q_isnt_int, q_isnt_tup, q_isnt_lst, q_list_l, q_list_t, q_tuple_l, q_tuple_t, q_max2, q_min2, q_sum, q_ixF_s, q_ixF_l, q_ixF_t, q_ixF_b, q_inF_s, q_inF_l, q_inF_t, q_lenG_s, q_lenG_l, q_lenG_t, q_lenG_d, q_lenG_dt, ↓q_setD, ↓q_dput, q_dputK, q_keyI, q_keyS, q_seeT, q_toDv, q_toDl, q_toDk, q_toDt, q_toDs0, q_toDs1, q_toDsm, q_fls0, q_fls1, q_flv, q_fll, q_flk, q_flt, q_flsm, q_sloV, q_sloK, q_sloT, q_sloL, q_sloLl, ↓q_oV, ↓q_oL, ↓q_oC, ↓q_oaN, ↓q_oaC, ↓q_oLst, q_oLstK, ↓q_setO, ↓q_parO, q_parOK, ↓q_parO3, q_parO3K, ↓q_appAt, q_appAtK, q_appAtK2, q_flatS, q_flatI, q_flatS2, q_mapv0, q_sloL0, bnd_ret, bnd_assoc, bnd_assoc', bnd_r, cnd_t, cnd_f, fail_bnd, bind_bnd, str01, List.cons.injEq, and_true, decide_true, decide_false, cut_toN, cut_fromN, cut_from1N, cut_to1N, cut_to1, cut_to2, cut_to3, cut_from1, cut_toM1, cut_fromM1, DL.startD, List.map_cons, List.map_nil, List.length_cons, List.length_nil, Nat.reduceAdd, Nat.reduceSub, List.replicate, List.cons_append, List.nil_append, view_eq, viewAt_cons, viewAt_nil, List.contains_cons, List.contains_nil, Nat.reduceBEq, Bool.or_true, Bool.or_false, Bool.true_or, Bool.false_or, if_true, Bool.false_eq_true, if_false, Option.map_some, Option.map_none, see_val, see_own, rd_0, rd_1, rd_2, rd_3, rd_4, rd_5, rd_6, rd_7, rd_8, rd_9, rd_10, rd_11, rd_12, rd_13, rd_14, rd_15, rd_16, rd_17, rd_18, rd_19, rd_20, rd_21, rd_22, rd_23, rd_24, rd_25, rd_26, rd_27, rd_28, rd_29, rd_30, rd_31, rd_32, rd_33, rd_34, rd_35, rd_36, rd_37, rd_38, rd_39, rd_40, rd_41, rd_42, rd_43, rd_44, rd_45, Int.reduceToNat, flat_int, flat_str, flat_bl, flat_non, flat_bag, flat_lst, flat_tup, flat_obj, List.all_cons, List.all_nil, Bool.and_true, Bool.true_and, Bool.and_false, Bool.false_and, keepIf_t, keepIf_f, frz_eq, frzAt_cons, frzAt_nil, List.set_cons_succ, List.set_cons_zero, subD_int, addD_int, negD_int, asI_int, asB_bl, truD_bl, lenF_lst, lenF_tup, intF_int, intF_bl, absF_int, ltD_int, leD_int, gtD_int, geD_int, eqD_int, eqD_str, neD_int, neD_str, inD_str, notInD_str, slD_lst, slD_scr, revD_lst, itemsD_lst, itemsD_tup, itemsD_str, Bool.not_true, Bool.not_false, ixD_l, ixD_t, ofSome, atI_0, atI_1, atI_2, atI_3, atI_4, atI_app, slotD_obj, propD_obj, propN_obj, isC_obj, get0, get1, get2, get3, getS, bName_eq, bTup_eq, bCons_eq, bNil_eq, setAll2_cons, setAll2_nil, setAllD_cons, setAllD_nil, wipeD_cons, wipeD_nil, isi_str_str, isi_int_int, isi_bool_int, List.getElem?_cons_zero, List.getElem?_cons_succ, ↓q_nIf, q_minG2, q_minGs, q_eqC, q_isiO, q_isiO_i, q_isiO_s, q_isiO_n, q_isiO_l, q_isiO_t, q_cndN, q_szL, q_sloL1, q_sloL2, q_sloL3, q_c0, q_c1, q_c2, q_c3, q_c4, q_c5, q_c6, q_c7, q_c8, q_c9, q_c10, q_c11, q_c12, q_c13, q_c14, q_c15, q_c16, q_eqBl, q_neBl, q_bin4, q_sumL, q_disp, q_prs0, q_prs1, q_dc, q_tput, q_tputK, q_inT, q_inTK, q_getT, q_getTK, q_keysI1, q_keys2s, q_keys2i, q_keys2ii, q_neC, q_augSub, q_shr, eq_self, cnd_dt, cnd_df, Int.toNat_natCast, lenF_str, modD_int, divD_int, addD_str, addD_lst, slD_str, revD_str, ixD_str, ixD_str1, ixD_strmod, rng1_int, rng2_int, mulD_intl, mulD_intr, intF_dig, q_comp0, q_compC])
local macro_rules | `(tactic| walk_at "evh") => `(tactic| try simp -implicitDefEqProofs -dsimp (disch := walk_at "dis") only [after_is, rule_signs, ↓q_seq, ↓q_seqK_nx, ↓q_seqK_rt, ↓q_seqK_rn, ↓q_seqK_bk, ↓q_seqK_ct, ↓q_runD, ↓q_runN, q_runK_rt, q_runK_rn, q_runK_nx, q_runKN_rn, ↓q_set, ↓q_setN, ↓q_ret, ↓q_retN, ↓q_drop, ↓q_if, ↓q_unp, q_unpK, ↓q_par, q_parK, ↓q_app, q_appK, ↓q_aug, q_augK, q_addF_int, q_addF_str, q_guard, ↓q_for, ↓q_forR, q_loopK_nx, q_loopK_ct, q_loopK_bk, q_loopK_rt, q_loopK_rn, ↓q_sNil, ↓q_e2, ↓q_t2, ↓q_e1, ↓q_cst, ↓q_aN, ↓q_aC, ↓q_call, ↓q_callN, ↓q_eN, ↓q_nLst, q_lstK, ↓q_eTup, q_tupK, ↓q_tVal, ↓q_tNot, ↓q_tAnd, ↓q_tOr, ↓q_eAnd, ↓q_eOr, ↓q_eNot, ↓q_eIf, ↓q_iAny, ↓q_iRg1, ↓q_iRg2, ↓q_iEnum, ↓q_nLc, ↓q_cT, ↓q_oN, ↓q_oS, ↓q_eSl, ↓q_eChain, ↓q_tBl, ↓q_eMake, ↓q_eMeth, ↓q_nMeth, ↓q_n1M, ↓q_iSeq, q_selK, q_self, ↓q_iTwo, ↓q_iTwoS, q_two2s, q_two2, ↓q_ext, q_extK, ↓q_nLc2, q_count, q_inE, q_notInE, q_is_non, q_is_str, q_is_int, q_is_tup, q_is_lst, q_isnt_non, q_isnt_str, q_isnt_int, q_isnt_tup, q_isnt_lst, q_list_l, q_list_t, q_tuple_l, q_tuple_t, q_max2, q_min2, q_sum, q_ixF_s, q_ixF_l, q_ixF_t, q_ixF_b, q_inF_s, q_inF_l, q_inF_t, q_lenG_s, q_lenG_l, q_lenG_t, q_lenG_d, q_lenG_dt, ↓q_setD, ↓q_dput, q_dputK, q_keyI, q_keyS, q_seeT, q_toDv, q_toDl, q_toDk, q_toDt, q_toDs0, q_toDs1, q_toDsm, q_fls0, q_fls1, q_flv, q_fll, q_flk, q_flt, q_flsm, q_sloV, q_sloK, q_sloT, q_sloL, q_sloLl, ↓q_oV, ↓q_oL, ↓q_oC, ↓q_oaN, ↓q_oaC, ↓q_oLst, q_oLstK, ↓q_setO, ↓q_parO, q_parOK, ↓q_parO3, q_parO3K, ↓q_appAt, q_appAtK, q_appAtK2, q_flatS, q_flatI, q_flatS2, q_mapv0, q_sloL0, bnd_ret, bnd_assoc, bnd_assoc', bnd_r, cnd_t, cnd_f, fail_bnd, bind_bnd, str01, List.cons.injEq, and_true, decide_true, decide_false, cut_toN, cut_fromN, cut_from1N, cut_to1N, cut_to1, cut_to2, cut_to3, cut_from1, cut_toM1, cut_fromM1, DL.startD, List.map_cons, List.map_nil, List.length_cons, List.length_nil, Nat.reduceAdd, Nat.reduceSub, List.replicate, List.cons_append, List.nil_append, view_eq, viewAt_cons, viewAt_nil, List.contains_cons, List.contains_nil, Nat.reduceBEq, Bool.or_true, Bool.or_false, Bool.true_or, Bool.false_or, if_true, Bool.false_eq_true, if_false, Option.map_some, Option.map_none, see_val, see_own, rd_0, rd_1, rd_2, rd_3, rd_4, rd_5, rd_6, rd_7, rd_8, rd_9, rd_10, rd_11, rd_12, rd_13, rd_14, rd_15, rd_16, rd_17, rd_18, rd_19, rd_20, rd_21, rd_22, rd_23, rd_24, rd_25, rd_26, rd_27, rd_28, rd_29, rd_30, rd_31, rd_32, rd_33, rd_34, rd_35, rd_36, rd_37, rd_38, rd_39, rd_40, rd_41, rd_42, rd_43, rd_44, rd_45, Int.reduceToNat, flat_int, flat_str, flat_bl, flat_non, flat_bag, flat_lst, flat_tup, flat_obj, List.all_cons, List.all_nil, Bool.and_true, Bool.true_and, Bool.and_false, Bool.false_and, keepIf_t, keepIf_f, frz_eq, frzAt_cons, frzAt_nil, List.set_cons_succ, List.set_cons_zero, subD_int, addD_int, negD_int, asI_int, asB_bl, truD_bl, lenF_lst, lenF_tup, intF_int, intF_bl, absF_int, ltD_int, leD_int, gtD_int, geD_int, eqD_int, eqD_str, neD_int, neD_str, inD_str, notInD_str, slD_lst, slD_scr, revD_lst, itemsD_lst, itemsD_tup, itemsD_str, Bool.not_true, Bool.not_false, ixD_l, ixD_t, ofSome, atI_0, atI_1, atI_2, atI_3, atI_4, atI_app, slotD_obj, propD_obj, propN_obj, isC_obj, get0, get1, get2, get3, getS, bName_eq, bTup_eq, bCons_eq, bNil_eq, setAll2_cons, setAll2_nil, setAllD_cons, setAllD_nil, wipeD_cons, wipeD_nil, isi_str_str, isi_int_int, isi_bool_int, List.getElem?_cons_zero, List.getElem?_cons_succ, ↓q_nIf, q_minG2, q_minGs, q_eqC, q_isiO, q_isiO_i, q_isiO_s, q_isiO_n, q_isiO_l, q_isiO_t, q_cndN, q_szL, q_sloL1, q_sloL2, q_sloL3, q_c0, q_c1, q_c2, q_c3, q_c4, q_c5, q_c6, q_c7, q_c8, q_c9, q_c10, q_c11, q_c12, q_c13, q_c14, q_c15, q_c16, q_eqBl, q_neBl, q_bin4, q_sumL, q_disp, q_prs0, q_prs1, q_dc, q_tput, q_tputK, q_inT, q_inTK, q_getT, q_getTK, q_keysI1, q_keys2s, q_keys2i, q_keys2ii, q_neC, q_augSub, q_shr, eq_self, cnd_dt, cnd_df, Int.toNat_natCast, lenF_str, modD_int, divD_int, addD_str, addD_lst, slD_str, revD_str, ixD_str, ixD_str1, ixD_strmod, rng1_int, rng2_int, mulD_intl, mulD_intr, intF_dig, *])
local macro_rules | `(tactic| walk_at "env") => `(tactic| try simp -implicitDefEqProofs only [List.all_cons, List.all_nil, Bool.and_true, Bool.true_and, setAll2_cons, setAll2_nil, bName_eq, env0, List.replicate, flat_int, flat_str, flat_bl, flat_non, flat_bag, flat_lst, flat_tup, flat_obj, keepIf_t, keepIf_f, frz_eq, frzAt_cons, frzAt_nil, List.contains_cons, List.contains_nil, Nat.reduceBEq, Nat.reduceAdd, Bool.or_true, Bool.or_false, Bool.true_or, if_true, Bool.false_eq_true, if_false, Option.map_some, Option.map_none, see_val, see_own, List.set_cons_succ, List.set_cons_zero])
/-! ### all stands -/
def allS (s : List Nat) : Nat → List (List Nat)
  | 0 => [[]]
  | n + 1 => (allS s n).flatMap fun x => s.map fun c => x ++ [c]
theorem allS_len (s : List Nat) : ∀ n, (allS s n).length = s.length ^ n
  | 0 => rfl
  | n + 1 => by
    show ((allS s n).flatMap _).length = _
    rw [List.length_flatMap]
    simp only [List.length_map]
    rw [List.map_const', List.sum_replicate_nat, allS_len s n, Nat.pow_succ]
theorem mem_allS {s : List Nat} : ∀ {n : Nat} {x : List Nat}, x ∈ allS s n ↔ x.length = n ∧ ∀ c ∈ x, c ∈ s
  | 0, x => by
    constructor
    · intro h
      obtain rfl := List.mem_singleton.mp h
      exact ⟨rfl, fun c hc => nomatch hc⟩
    · rintro ⟨h, _⟩
      rw [List.length_eq_zero_iff.mp h]
      exact List.mem_singleton.mpr rfl
  | n + 1, x => by
    show x ∈ (allS s n).flatMap _ ↔ _
    rw [List.mem_flatMap]
    constructor
    · rintro ⟨y, hy, hx⟩
      obtain ⟨c, hc, rfl⟩ := List.mem_map.mp hx
      obtain ⟨h1, h2⟩ := mem_allS.mp hy
      refine ⟨by simp [h1], fun d hd => ?_⟩
      rcases List.mem_append.mp hd with hd | hd
      · exact h2 d hd
      · rw [List.mem_singleton.mp hd]; exact hc
    · rintro ⟨h1, h2⟩
      have hne : x ≠ [] := fun e => by rw [e] at h1; simp at h1
      refine ⟨x.dropLast, mem_allS.mpr ⟨by rw [List.length_dropLast, h1]; rfl, fun c hc => h2 c (List.dropLast_subset x hc)⟩, List.mem_map.mpr ⟨x.getLast hne, h2 _ (List.getLast_mem hne), List.dropLast_concat_getLast hne⟩⟩
theorem strL_allS (s : List Nat) (n : Nat) : strL (allS s (n + 1)) = (allS s n).flatMap fun x => s.map fun c => D.str (x ++ [c]) := by
  show ((allS s n).flatMap _).map D.str = _
  rw [List.map_flatMap]
  congr 1
  funext x
  rw [List.map_map]
  rfl
theorem pow_small_le {k i n B : Nat} (h1 : 1 ≤ k) (hi : i ≤ n) (h : k ^ n ≤ B) : k ^ i ≤ B := Nat.le_trans (Nat.pow_le_pow_right h1 hi) h
theorem all_stands_is {s : List Nat} {n : Nat} (hs : 1 ≤ s.length) (hs2 : s.length ≤ 1000) (hn : n ≤ 1000) (hp : s.length ^ n ≤ 100000) : R_all_stands [.str s, .int (n : Int)] = M.ret (strL (allS s n)) := by
  simp only [R_all_stands, F_all_stands]
  walk_at "ev"
  refine Ev.eq (ev_loop (fun i ρ => ∃ s3 s4 s5, ρ = [some (.val (.str s)), some (.val (.int (n : Int))), some (.own (strL (allS s i))), s3, s4, s5]) ⟨_, _, _, rfl⟩ ?_ ?_)
  · rintro i d ρ hd ⟨s3, s4, s5, rfl⟩
    obtain ⟨hi, rfl⟩ := get_rmap hd
    refine ⟨_, rfl, ?_⟩
    walk_at "env"
    walk_at "ev"
    rw [compM2_map (l := fun x => [(4, D.str x)]) (inj1 := fun _ c => D.str [c]) (l1 := fun _ c => [(5, D.str [c])]) (ys := fun _ => s) (y := fun x c => D.str (x ++ [c])) (fun x hx => ?_)]
    · have hl : ((allS s i).flatMap fun x => s.map fun c => D.str (x ++ [c])).length = s.length ^ (i + 1) := by rw [← strL_allS, List.length_map, allS_len]
      have hl2 := pow_small_le (i := i + 1) hs (by omega) hp
      rw [← strL_allS] at hl ⊢
      walk_at "ev"
      exact Ev.ret ⟨_, .inl rfl, _, _, _, rfl⟩
    · have hxl := (mem_allS.mp hx).1
      refine ⟨rfl, rfl, ?_, fun c hc => ⟨rfl, rfl, ?_⟩⟩
      · walk_at "ev"
      · walk_at "ev"
  · rintro ρ ⟨s3, s4, s5, rfl⟩
    rw [List.length_map, List.length_range]
    walk_at "ev"
    exact Ev.ret rfl
theorem my_all_is {s : List Nat} {n : Nat} (hs : 1 ≤ s.length) (hs2 : s.length ≤ 1000) (hn : n ≤ 1000) (hp : s.length ^ n ≤ 100000) : R__law_my_all [.str s, .int (n : Int)] = M.ret (.lst (strL (allS s n))) := by
  simp only [R__law_my_all, F__law_my_all]
  walk_at "ev"
  refine Ev.eq (ev_loop (fun i ρ => ∃ s3 s4 s5 z, (z = .own (strL (allS s i)) ∨ z = .val (.lst (strL (allS s i)))) ∧ ρ = [some (.val (.str s)), some (.val (.int (n : Int))), some z, s3, s4, s5]) ⟨_, _, _, _, .inl rfl, rfl⟩ ?_ ?_)
  · rintro i d ρ hd ⟨s3, s4, s5, z, hz, rfl⟩
    have hz : z.see = .lst (strL (allS s i)) := by rcases hz with rfl | rfl <;> rfl
    obtain ⟨hi, rfl⟩ := get_rmap hd
    refine ⟨_, rfl, ?_⟩
    walk_at "env"
    walk_at "ev"
    rw [hz]
    walk_at "ev"
    rw [compM_mapI (l := fun x => [(4, D.str x)]) (y := fun x => D.lst (s.map fun c => D.str (x ++ [c]))) (fun x hx => ⟨rfl, rfl, ?_⟩)]
    · have hl : ((allS s i).flatMap fun x => s.map fun c => D.str (x ++ [c])).length = s.length ^ (i + 1) := by rw [← strL_allS, List.length_map, allS_len]
      have hl2 := pow_small_le (i := i + 1) hs (by omega) hp
      have hl3 := pow_small_le (i := i) hs (by omega) hp
      have hl4 := allS_len s i
      rw [← strL_allS] at hl
      walk_at "ev"
      rw [q_sumL (fun x => s.map fun c => D.str (x ++ [c])) _ (by rw [← List.flatMap_def, ← strL_allS]; omega), ← List.flatMap_def, ← strL_allS]
      walk_at "ev"
      exact Ev.ret ⟨_, .inl rfl, _, _, _, _, .inr rfl, rfl⟩
    · have hxl := (mem_allS.mp hx).1
      walk_at "ev"
      rw [compM_mapI (l := fun c => [(5, D.str [c])]) (y := fun c => D.str (x ++ [c])) (fun c hc => ⟨rfl, rfl, ?_⟩)]
      · walk_at "ev"
      · walk_at "ev"
  · rintro ρ ⟨s3, s4, s5, z, hz, rfl⟩
    rw [List.length_map, List.length_range] at hz
    rcases hz with rfl | rfl
    · walk_at "ev"
      exact Ev.ret rfl
    · walk_at "ev"
      exact Ev.ret rfl
/-! ### the first hit of a list -/
theorem ev_searchL {α : Type} {bs : D → Option (List (Nat × D))} {body : Env2 → M Out} {inj : α → D} {g : α → Option D} (I : Env2 → Prop) : ∀ {as : List α} {ρ : Env2}, I ρ → (∀ a ∈ as, ∀ ρ, I ρ → ∃ l, bs (inj a) = some l ∧ Ev (body (setAll2 ρ l)) (Hit I (g a))) → Ev (loopM bs body (as.map inj) ρ) (Hit I (as.findSome? g))
  | [], ρ, h0, _ => Ev.ret ⟨ρ, rfl, h0⟩
  | a :: as, ρ, h0, h => by
    obtain ⟨l, e1, o, e2, e3⟩ := h a (by simp) ρ h0
    rw [List.map_cons, q_loop1 ρ e1, e2, bnd_ret, List.findSome?_cons]
    cases eg : g a with
    | some d =>
      rw [eg] at e3
      have e3 : o = .rt d := e3
      subst e3
      exact Ev.ret rfl
    | none =>
      rw [eg] at e3
      obtain ⟨ρ', rfl, h'⟩ := e3
      exact ev_searchL I (as := as) h' fun b hb => h b (by simp [hb])
/-! ### where rules part -/
def partK (f f' : List Nat → List Nat) (n : Nat) (x : List Nat) : Option D := if itN f n x = itN f' n x then none else some (.str x)
def partA (s : List Nat) (f f' : List Nat → List Nat) (n : Nat) : Option D := (List.range (2 * n + 1)).findSome? fun i => (allS s (i + 1)).findSome? (partK f f' n)
theorem partA_comm (s : List Nat) (f f' : List Nat → List Nat) (n : Nat) : partA s f f' n = partA s f' f n := by
  unfold partA partK
  congr 1
  funext i
  congr 1
  funext x
  by_cases h : itN f n x = itN f' n x
  · rw [if_pos h, if_pos h.symm]
  · rw [if_neg h, if_neg fun z => h z.symm]
theorem partA_str {s : List Nat} {f f' : List Nat → List Nat} {n : Nat} {d : D} (h : partA s f f' n = some d) : ∃ x, d = .str x ∧ x.length ≤ 2 * n + 1 ∧ ∀ c ∈ x, c ∈ s := by
  unfold partA at h
  obtain ⟨i, hi, h⟩ := List.exists_of_findSome?_eq_some h
  obtain ⟨x, hx, h⟩ := List.exists_of_findSome?_eq_some h
  unfold partK at h
  split at h
  · cases h
  · cases h
    have := List.mem_range.mp hi
    exact ⟨x, rfl, by rw [(mem_allS.mp hx).1]; omega, (mem_allS.mp hx).2⟩
theorem minS_sigs {r r' : Nat} (h : r ≤ 2) (h' : r' ≤ 2) : minS [sigs r, sigs r'] = sigs (min r r') := by
  have h1 : r = 0 ∨ r = 1 ∨ r = 2 := by omega
  have h2 : r' = 0 ∨ r' = 1 ∨ r' = 2 := by omega
  rcases h1 with rfl | rfl | rfl <;> rcases h2 with rfl | rfl | rfl <;> decide
theorem sg_sigs {r m : Nat} (hr : r ≤ 2) (hm : m ≤ r) {x : List Nat} (h : ∀ c ∈ x, c ∈ sigs m) : Sg r x := fun c hc => by
  have := (sigs_mem (r := m) (by omega)).mp (h c hc)
  omega
theorem sigs_pow {m n : Nat} (hm : m ≤ 2) (h : (m + 2) ^ n ≤ 100000) : (sigs m).length ^ n ≤ 100000 := by rw [sigs_len hm]; exact h
theorem parted_is {t t' : List Nat} {r r' n : Nat} (ht : BinT t) (ht' : BinT t') (hr : r ≤ 2) (hr' : r' ≤ 2) (hn : n ≤ 20) (hp : (min r r' + 2) ^ (2 * n + 1) ≤ 100000) : R_parted_after [rul t r, rul t' r', .int (n : Int)] = M.ret ((partA (sigs (min r r')) (ringL t r) (ringL t' r') n).getD .non) := by
  have hm : min r r' ≤ 2 := by omega
  have sl := sigs_len hm
  simp only [R_parted_after, F_parted_after]
  walk_at "ev"
  rw [minS_sigs hr hr']
  walk_at "ev"
  refine Ev.eq (Ev.bind (P := Hit (fun ρ => True) (partA (sigs (min r r')) (ringL t r) (ringL t' r') n)) (ev_mono (Q := Hit (fun ρ => True) (partA (sigs (min r r')) (ringL t r) (ringL t' r') n)) ?_ fun a h => h) ?_)
  · rw [show ((2 * (n : Int) + 2) - 1).toNat = 2 * n + 1 by omega]
    refine ev_mono (ev_search (fun ρ => ∃ s4 s5, ρ = [some (.val (rul t r)), some (.val (rul t' r')), some (.val (.int (n : Int))), some (.val (.str (sigs (min r r')))), s4, s5]) ⟨_, _, rfl⟩ ?_) fun o h => h.mono fun _ _ => trivial
    rintro i hi ρ ⟨s4, s5, rfl⟩
    refine ⟨_, rfl, ?_⟩
    walk_at "env"
    walk_at "ev"
    have hp2 := pow_small_le (k := min r r' + 2) (i := i + 1) (by omega) (show i + 1 ≤ 2 * n + 1 by omega) hp
    rw [show (1 + (i : Int)) = ((i + 1 : Nat) : Int) by omega, all_stands_is (by omega) (by omega) (by omega) (by rw [sl]; exact hp2)]
    walk_at "ev"
    refine ev_searchL (fun ρ => ∃ s4 s5, ρ = [some (.val (rul t r)), some (.val (rul t' r')), some (.val (.int (n : Int))), some (.val (.str (sigs (min r r')))), s4, s5]) ⟨_, _, rfl⟩ ?_
    rintro x hx ρ ⟨s4, s5, rfl⟩
    obtain ⟨hl, hc⟩ := mem_allS.mp hx
    have hx1 := sg_sigs (r := r) hr (by omega) hc
    have hx2 := sg_sigs (r := r') hr' (by omega) hc
    refine ⟨_, rfl, ?_⟩
    walk_at "env"
    walk_at "ev"
    unfold partK
    by_cases h : itN (ringL t r) n x = itN (ringL t' r') n x
    · rw [if_pos h, h]
      walk_at "ev"
      exact Ev.ret ⟨_, rfl, _, _, rfl⟩
    · rw [if_neg h, decide_eq_false h]
      walk_at "ev"
      exact Ev.ret rfl
  · intro o ho
    cases e : partA (sigs (min r r')) (ringL t r) (ringL t' r') n with
    | some d =>
      rw [e] at ho
      have ho : o = .rt d := ho
      subst ho
      walk_at "ev"
      exact Ev.ret rfl
    | none =>
      rw [e] at ho
      obtain ⟨ρ, rfl, _⟩ := ho
      walk_at "ev"
      exact Ev.ret rfl
end LW
set_option Elab.async false
set_option maxRecDepth 100000
set_option autoImplicit false
set_option linter.unusedVariables false
set_option maxHeartbeats 4000000
namespace LW
open PySem L2 PySem.Spec PyProof.Rows DL
/-! Rule_all_of -/
def F_Rule_all_of : Env2 → M Out :=
  (retNM [0, 1] (nLc [1] (iRg1 (aC (cst (.int 16)) aN)) (bName 1) cT (eMake 0 ruleI (aC (e1 bin4D (rdEnv 1)) (aC (rdEnv 0) aN)))))
def R_Rule_all_of : List D → M (List D) := runN 2 F_Rule_all_of
/-! is_stand -/
def F_is_stand : Env2 → M Out :=
  (retM [0, 1] (eAnd (eCall R_is_row (aC (rdEnv 0) (aC (rdEnv 1) aN))) (e2 (eqD true) (rdEnv 0) (cst (.str [])))))
def R_is_stand : List D → M D := runD 2 F_is_stand
/-! tables_of -/
def F_tables_of : Env2 → M Out :=
  (seqM (setNM 4 [] (nLst aN))
  (seqM (forA [2] (iAny (eN (nCall R_Rule_all_of (aC (rdEnv 2) aN)))) (bName 5)
  (ifM [0, 1, 3, 5] (tAndM (tVal (eCall R_is_stand (aC (rdEnv 0) (aC (e1 (propD 0 R_Rule_signs) (rdEnv 5)) aN)))) (tAndM (tVal (eCall R_is_stand (aC (rdEnv 1) (aC (e1 (propD 0 R_Rule_signs) (rdEnv 5)) aN)))) (t2 (eqD false) (eCall R_after (aC (rdEnv 5) (aC (rdEnv 0) (aC (rdEnv 3) aN)))) (rdEnv 1))))
  (appM 4 [5] (e1 (propD 0 R_Rule_table) (rdEnv 5)))
  sNil))
  (retOwn 4)))
def R_tables_of : List D → M (List D) := runN 6 F_tables_of
/-! tables_with_shape -/
def F_tables_with_shape : Env2 → M Out :=
  (seqM (setNM 4 [0, 3, 5] (nLc [5] (iAny (eN (nCall R_Rule_all_of (aC (rdEnv 3) aN)))) (bName 5) (tVal (eCall R_is_stand (aC (rdEnv 0) (aC (e1 (propD 0 R_Rule_signs) (rdEnv 5)) aN)))) (rdEnv 5)))
  (retNM [0, 1, 2, 4, 5] (nLc [5] (iAny (rdEnv 4)) (bName 5) (tVal (eCall R_is_shape (aC (rdEnv 5) (aC (rdEnv 0) (aC (rdEnv 1) (aC (rdEnv 2) aN)))))) (e1 (propD 0 R_Rule_table) (rdEnv 5)))))
def R_tables_with_shape : List D → M (List D) := runN 6 F_tables_with_shape
/-! _law_tables -/
def F__law_tables : Env2 → M Out :=
  (retNM [0, 1] (nLc [0] (iRg1 (aC (cst (.int 16)) aN)) (bName 0) cT (e2 joinF (cst (.str [])) (eN (nLc [1] (iAny (eTup (aC (cst (.int 3)) (aC (cst (.int 2)) (aC (cst (.int 1)) (aC (cst (.int 0)) aN)))))) (bName 1) cT (e2 ixF (cst (.str [48, 49])) (e2 modD (eCall intF (aC (e2 shrD (rdEnv 0) (rdEnv 1)) aN)) (cst (.int 2)))))))))
def R__law_tables : List D → M (List D) := runN 2 F__law_tables
local macro_rules | `(tactic| walk_at "dis") => `(tactic| first | assumption | omega | (simp only [List.length_map, List.length_range, List.length_append, List.length_cons, List.length_nil, List.length_reverse, List.length_take, List.length_drop, List.length_replicate, List.length_singleton]; omega) | (simp; done))
local macro_rules | `(tactic| walk_at "ev") => `(tactic| try simp -implicitDefEqProofs -dsimp (disch := walk_at "dis") only [after_is, rule_signs, rule_table, is_shape_is, make_rule, ↓q_seq, ↓q_seqK_nx, ↓q_seqK_rt, ↓q_seqK_rn, ↓q_seqK_bk, ↓q_seqK_ct, ↓q_runD, ↓q_runN, q_runK_rt, q_runK_rn, q_runK_nx, q_runKN_rn, ↓q_set, ↓q_setN, ↓q_ret, ↓q_retN, ↓q_drop, ↓q_if, ↓q_unp, q_unpK, ↓q_par, q_parK, ↓q_app, q_appK, ↓q_aug, q_augK, q_addF_int, q_addF_str, q_guard, ↓q_for, ↓q_forR, q_loopK_nx, q_loopK_ct, q_loopK_bk, q_loopK_rt, q_loopK_rn, ↓q_sNil, ↓q_e2, ↓q_t2, ↓q_e1, ↓q_cst, ↓q_aN, ↓q_aC, ↓q_call, ↓q_callN, ↓q_eN, ↓q_nLst, q_lstK, ↓q_eTup, q_tupK, ↓q_tVal, ↓q_tNot, ↓q_tAnd, ↓q_tOr, ↓q_eAnd, ↓q_eOr, ↓q_eNot, ↓q_eIf, ↓q_iAny, ↓q_iRg1, ↓q_iRg2, ↓q_iEnum, ↓q_nLc, ↓q_cT, ↓q_oN, ↓q_oS, ↓q_eSl, ↓q_eChain, ↓q_tBl, ↓q_eMake, ↓q_eMeth, ↓q_nMeth, ↓q_n1M, ↓q_iSeq, q_selK, q_self, ↓q_iTwo, ↓q_iTwoS, q_two2s, q_two2, ↓q_ext, q_extK, ↓q_nLc2, q_count, q_inE, q_notInE, q_is_non, q_is_str, q_is_int, q_is_tup, q_is_lst, q_isnt_non, q_isnt_str, q_isnt_int, q_isnt_tup, q_isnt_lst, q_list_l, q_list_t, q_tuple_l, q_tuple_t, q_max2, q_min2, q_sum, q_ixF_s, q_ixF_l, q_ixF_t, q_ixF_b, q_inF_s, q_inF_l, q_inF_t, q_lenG_s, q_lenG_l, q_lenG_t, q_lenG_d, q_lenG_dt, ↓q_setD, ↓q_dput, q_dputK, q_keyI, q_keyS, q_seeT, q_toDv, q_toDl, q_toDk, q_toDt, q_toDs0, q_toDs1, q_toDsm, q_fls0, q_fls1, q_flv, q_fll, q_flk, q_flt, q_flsm, q_sloV, q_sloK, q_sloT, q_sloL, q_sloLl, ↓q_oV, ↓q_oL, ↓q_oC, ↓q_oaN, ↓q_oaC, ↓q_oLst, q_oLstK, ↓q_setO, ↓q_parO, q_parOK, ↓q_parO3, q_parO3K, ↓q_appAt, q_appAtK, q_appAtK2, q_flatS, q_flatI, q_flatS2, q_mapv0, q_sloL0, bnd_ret, bnd_assoc, bnd_assoc', bnd_r, cnd_t, cnd_f, fail_bnd, bind_bnd, str01, List.cons.injEq, and_true, decide_true, decide_false, cut_toN, cut_fromN, cut_from1N, cut_to1N, cut_to1, cut_to2, cut_to3, cut_from1, cut_toM1, cut_fromM1, DL.startD, List.map_cons, List.map_nil, List.length_cons, List.length_nil, Nat.reduceAdd, Nat.reduceSub, List.replicate, List.cons_append, List.nil_append, view_eq, viewAt_cons, viewAt_nil, List.contains_cons, List.contains_nil, Nat.reduceBEq, Bool.or_true, Bool.or_false, Bool.true_or, Bool.false_or, if_true, Bool.false_eq_true, if_false, Option.map_some, Option.map_none, see_val, see_own, rd_0, rd_1, rd_2, rd_3, rd_4, rd_5, rd_6, rd_7, rd_8, rd_9, rd_10, rd_11, rd_12, rd_13, rd_14, rd_15, rd_16, rd_17, rd_18, rd_19, rd_20, rd_21, rd_22, rd_23, rd_24, rd_25, rd_26, rd_27, rd_28, rd_29, rd_30, rd_31, rd_32, rd_33, rd_34, rd_35, rd_36, rd_37, rd_38, rd_39, rd_40, rd_41, rd_42, rd_43, rd_44, rd_45, Int.reduceToNat, flat_int, flat_str, flat_bl, flat_non, flat_bag, flat_lst, flat_tup, flat_obj, List.all_cons, List.all_nil, Bool.and_true, Bool.true_and, Bool.and_false, Bool.false_and, keepIf_t, keepIf_f, frz_eq, frzAt_cons, frzAt_nil, List.set_cons_succ, List.set_cons_zero, subD_int, addD_int, negD_int, asI_int, asB_bl, truD_bl, lenF_lst, lenF_tup, intF_int, intF_bl, absF_int, ltD_int, leD_int, gtD_int, geD_int, eqD_int, eqD_str, neD_int, neD_str, inD_str, notInD_str, slD_lst, slD_scr, revD_lst, itemsD_lst, itemsD_tup, itemsD_str, Bool.not_true, Bool.not_false, ixD_l, ixD_t, ofSome, atI_0, atI_1, atI_2, atI_3, atI_4, atI_app, slotD_obj, propD_obj, propN_obj, isC_obj, get0, get1, get2, get3, getS, bName_eq, bTup_eq, bCons_eq, bNil_eq, setAll2_cons, setAll2_nil, setAllD_cons, setAllD_nil, wipeD_cons, wipeD_nil, isi_str_str, isi_int_int, isi_bool_int, List.getElem?_cons_zero, List.getElem?_cons_succ, ↓q_nIf, q_minG2, q_minGs, q_eqC, q_isiO, q_isiO_i, q_isiO_s, q_isiO_n, q_isiO_l, q_isiO_t, q_cndN, q_szL, q_sloL1, q_sloL2, q_sloL3, q_c0, q_c1, q_c2, q_c3, q_c4, q_c5, q_c6, q_c7, q_c8, q_c9, q_c10, q_c11, q_c12, q_c13, q_c14, q_c15, q_c16, q_eqBl, q_neBl, q_bin4, q_sumL, q_disp, q_prs0, q_prs1, q_dc, q_tput, q_tputK, q_inT, q_inTK, q_getT, q_getTK, q_keysI1, q_keys2s, q_keys2i, q_keys2ii, q_neC, q_augSub, q_shr, eq_self, cnd_dt, cnd_df, Int.toNat_natCast, lenF_str, modD_int, divD_int, addD_str, addD_lst, slD_str, revD_str, ixD_str, ixD_str1, ixD_strmod, rng1_int, rng2_int, mulD_intl, mulD_intr, intF_dig])
local macro_rules | `(tactic| walk_at "evl") => `(tactic| try simp -implicitDefEqProofs -dsimp (disch := walk_at "dis") only [after_is, rule_signs, rule_table, is_shape_is, make_rule, ↓q_seq, ↓q_seqK_nx, ↓q_seqK_rt, ↓q_seqK_rn, ↓q_seqK_bk, ↓q_seqK_ct, ↓q_runD, ↓q_runN, q_runK_rt, q_runK_rn, q_runK_nx, q_runKN_rn, ↓q_set, ↓q_setN, ↓q_ret, ↓q_retN, ↓q_drop, ↓q_if, ↓q_unp, q_unpK, ↓q_par, q_parK, ↓q_app, q_appK, ↓q_aug, q_augK, q_addF_int, q_addF_str, q_guard, ↓q_for, ↓q_forR, q_loopK_nx, q_loopK_ct, q_loopK_bk, q_loopK_rt, q_loopK_rn, ↓q_sNil, ↓q_e2, ↓q_t2, ↓q_e1, ↓q_cst, ↓q_aN, ↓q_aC, ↓q_call, ↓q_callN, ↓q_eN, ↓q_nLst, q_lstK, ↓q_eTup, q_tupK, ↓q_tVal, ↓q_tNot, ↓q_tAnd, ↓q_tOr, ↓q_eAnd, ↓q_eOr, ↓q_eNot, ↓q_eIf, ↓q_iAny, ↓q_iRg1, ↓q_iRg2, ↓q_iEnum, ↓q_nLc, ↓q_cT, ↓q_oN, ↓q_oS, ↓q_eSl, ↓q_eChain, ↓q_tBl, ↓q_eMake, ↓q_eMeth, ↓q_nMeth, ↓q_n1M, ↓q_iSeq, q_selK, q_self, ↓q_iTwo, ↓q_iTwoS, q_two2s, q_two2, ↓q_ext, q_extK, ↓q_nLc2, q_count, q_inE, q_notInE, q_is_non, q_is_str, q_is_int, q_is_tup, q_is_lst, q_isnt_non, q_isnt_str, q_isnt_int, q_isnt_tup, q_isnt_lst, q_list_l, q_list_t, q_tuple_l, q_tuple_t, q_max2, q_min2, q_sum, q_ixF_s, q_ixF_l, q_ixF_t, q_ixF_b, q_inF_s, q_inF_l, q_inF_t, q_lenG_s, q_lenG_l, q_lenG_t, q_lenG_d, q_lenG_dt, ↓q_setD, ↓q_dput, q_dputK, q_keyI, q_keyS, q_seeT, q_toDv, q_toDl, q_toDk, q_toDt, q_toDs0, q_toDs1, q_toDsm, q_fls0, q_fls1, q_flv, q_fll, q_flk, q_flt, q_flsm, q_sloV, q_sloK, q_sloT, q_sloL, q_sloLl, ↓q_oV, ↓q_oL, ↓q_oC, ↓q_oaN, ↓q_oaC, ↓q_oLst, q_oLstK, ↓q_setO, ↓q_parO, q_parOK, ↓q_parO3, q_parO3K, ↓q_appAt, q_appAtK, q_appAtK2, q_flatS, q_flatI, q_flatS2, q_mapv0, q_sloL0, bnd_ret, bnd_assoc, bnd_assoc', bnd_r, cnd_t, cnd_f, fail_bnd, bind_bnd, str01, List.cons.injEq, and_true, decide_true, decide_false, cut_toN, cut_fromN, cut_from1N, cut_to1N, cut_to1, cut_to2, cut_to3, cut_from1, cut_toM1, cut_fromM1, DL.startD, List.map_cons, List.map_nil, List.length_cons, List.length_nil, Nat.reduceAdd, Nat.reduceSub, List.replicate, List.cons_append, List.nil_append, view_eq, viewAt_cons, viewAt_nil, List.contains_cons, List.contains_nil, Nat.reduceBEq, Bool.or_true, Bool.or_false, Bool.true_or, Bool.false_or, if_true, Bool.false_eq_true, if_false, Option.map_some, Option.map_none, see_val, see_own, rd_0, rd_1, rd_2, rd_3, rd_4, rd_5, rd_6, rd_7, rd_8, rd_9, rd_10, rd_11, rd_12, rd_13, rd_14, rd_15, rd_16, rd_17, rd_18, rd_19, rd_20, rd_21, rd_22, rd_23, rd_24, rd_25, rd_26, rd_27, rd_28, rd_29, rd_30, rd_31, rd_32, rd_33, rd_34, rd_35, rd_36, rd_37, rd_38, rd_39, rd_40, rd_41, rd_42, rd_43, rd_44, rd_45, Int.reduceToNat, flat_int, flat_str, flat_bl, flat_non, flat_bag, flat_lst, flat_tup, flat_obj, List.all_cons, List.all_nil, Bool.and_true, Bool.true_and, Bool.and_false, Bool.false_and, keepIf_t, keepIf_f, frz_eq, frzAt_cons, frzAt_nil, List.set_cons_succ, List.set_cons_zero, subD_int, addD_int, negD_int, asI_int, asB_bl, truD_bl, lenF_lst, lenF_tup, intF_int, intF_bl, absF_int, ltD_int, leD_int, gtD_int, geD_int, eqD_int, eqD_str, neD_int, neD_str, inD_str, notInD_str, slD_lst, slD_scr, revD_lst, itemsD_lst, itemsD_tup, itemsD_str, Bool.not_true, Bool.not_false, ixD_l, ixD_t, ofSome, atI_0, atI_1, atI_2, atI_3, atI_4, atI_app, slotD_obj, propD_obj, propN_obj, isC_obj, get0, get1, get2, get3, getS, bName_eq, bTup_eq, bCons_eq, bNil_eq, setAll2_cons, setAll2_nil, setAllD_cons, setAllD_nil, wipeD_cons, wipeD_nil, isi_str_str, isi_int_int, isi_bool_int, List.getElem?_cons_zero, List.getElem?_cons_succ, ↓q_nIf, q_minG2, q_minGs, q_eqC, q_isiO, q_isiO_i, q_isiO_s, q_isiO_n, q_isiO_l, q_isiO_t, q_cndN, q_szL, q_sloL1, q_sloL2, q_sloL3, q_c0, q_c1, q_c2, q_c3, q_c4, q_c5, q_c6, q_c7, q_c8, q_c9, q_c10, q_c11, q_c12, q_c13, q_c14, q_c15, q_c16, q_eqBl, q_neBl, q_bin4, q_sumL, q_disp, q_prs0, q_prs1, q_dc, q_tput, q_tputK, q_inT, q_inTK, q_getT, q_getTK, q_keysI1, q_keys2s, q_keys2i, q_keys2ii, q_neC, q_augSub, q_shr, eq_self, cnd_dt, cnd_df, Int.toNat_natCast, lenF_str, modD_int, divD_int, addD_str, addD_lst, slD_str, revD_str, ixD_str, ixD_str1, ixD_strmod, rng1_int, rng2_int, mulD_intl, mulD_intr, intF_dig, q_loop0, q_loopN, q_comp0, q_compT, q_compC])
local macro_rules | `(tactic| walk_at "evc") => `(tactic| try simp -implicitDefEqProofs -dsimp (disch := walk_at "dis") only [after_is, rule_signs, rule_table, is_shape_is, make_rule, ↓q_seq, ↓q_seqK_nx, ↓q_seqK_rt, ↓q_seqK_rn, ↓q_seqK_bk, ↓q_seqK_ct, ↓q_runD, ↓q_runN, q_runK_rt, q_runK_rn, q_runK_nx, q_runKN_rn, ↓q_set, ↓q_setN, ↓q_ret, ↓q_retN, ↓q_drop, ↓q_if, ↓q_unp, q_unpK, ↓q_par, q_parK, ↓q_app, q_appK, ↓q_aug, q_augK, q_addF_int, q_addF_str, q_guard, ↓q_for, ↓q_forR, q_loopK_nx, q_loopK_ct, q_loopK_bk, q_loopK_rt, q_loopK_rn, ↓q_sNil, ↓q_e2, ↓q_t2, ↓q_e1, ↓q_cst, ↓q_aN, ↓q_aC, ↓q_call, ↓q_callN, ↓q_eN, ↓q_nLst, q_lstK, ↓q_eTup, q_tupK, ↓q_tVal, ↓q_tNot, ↓q_tAnd, ↓q_tOr, ↓q_eAnd, ↓q_eOr, ↓q_eNot, ↓q_eIf, ↓q_iAny, ↓q_iRg1, ↓q_iRg2, ↓q_iEnum, ↓q_nLc, ↓q_cT, ↓q_oN, ↓q_oS, ↓q_eSl, ↓q_eChain, ↓q_tBl, ↓q_eMake, ↓q_eMeth, ↓q_nMeth, ↓q_n1M, ↓q_iSeq, q_selK, q_self, ↓q_iTwo, ↓q_iTwoS, q_two2s, q_two2, ↓q_ext, q_extK, ↓q_nLc2, q_count, q_inE, q_notInE, q_is_non, q_is_str, q_is_int, q_is_tup, q_is_lst, q_isnt_non, q_isnt_str, q_isnt_int, q_isnt_tup, q_isnt_lst, q_list_l, q_list_t, q_tuple_l, q_tuple_t, q_max2, q_min2, q_sum, q_ixF_s, q_ixF_l, q_ixF_t, q_ixF_b, q_inF_s, q_inF_l, q_inF_t, q_lenG_s, q_lenG_l, q_lenG_t, q_lenG_d, q_lenG_dt, ↓q_setD, ↓q_dput, q_dputK, q_keyI, q_keyS, q_seeT, q_toDv, q_toDl, q_toDk, q_toDt, q_toDs0, q_toDs1, q_toDsm, q_fls0, q_fls1, q_flv, q_fll, q_flk, q_flt, q_flsm, q_sloV, q_sloK, q_sloT, q_sloL, q_sloLl, ↓q_oV, ↓q_oL, ↓q_oC, ↓q_oaN, ↓q_oaC, ↓q_oLst, q_oLstK, ↓q_setO, ↓q_parO, q_parOK, ↓q_parO3, q_parO3K, ↓q_appAt, q_appAtK, q_appAtK2, q_flatS, q_flatI, q_flatS2, q_mapv0, q_sloL0, bnd_ret, bnd_assoc, bnd_assoc', bnd_r, cnd_t, cnd_f, fail_bnd, bind_bnd, str01, List.cons.injEq, and_true, decide_true, decide_false, cut_toN, cut_fromN, cut_from1N, cut_to1N, cut_to1, cut_to2, cut_to3, cut_from1, cut_toM1, cut_fromM1, DL.startD, List.map_cons, List.map_nil, List.length_cons, List.length_nil, Nat.reduceAdd, Nat.reduceSub, List.replicate, List.cons_append, List.nil_append, view_eq, viewAt_cons, viewAt_nil, List.contains_cons, List.contains_nil, Nat.reduceBEq, Bool.or_true, Bool.or_false, Bool.true_or, Bool.false_or, if_true, Bool.false_eq_true, if_false, Option.map_some, Option.map_none, see_val, see_own, rd_0, rd_1, rd_2, rd_3, rd_4, rd_5, rd_6, rd_7, rd_8, rd_9, rd_10, rd_11, rd_12, rd_13, rd_14, rd_15, rd_16, rd_17, rd_18, rd_19, rd_20, rd_21, rd_22, rd_23, rd_24, rd_25, rd_26, rd_27, rd_28, rd_29, rd_30, rd_31, rd_32, rd_33, rd_34, rd_35, rd_36, rd_37, rd_38, rd_39, rd_40, rd_41, rd_42, rd_43, rd_44, rd_45, Int.reduceToNat, flat_int, flat_str, flat_bl, flat_non, flat_bag, flat_lst, flat_tup, flat_obj, List.all_cons, List.all_nil, Bool.and_true, Bool.true_and, Bool.and_false, Bool.false_and, keepIf_t, keepIf_f, frz_eq, frzAt_cons, frzAt_nil, List.set_cons_succ, List.set_cons_zero, subD_int, addD_int, negD_int, asI_int, asB_bl, truD_bl, lenF_lst, lenF_tup, intF_int, intF_bl, absF_int, ltD_int, leD_int, gtD_int, geD_int, eqD_int, eqD_str, neD_int, neD_str, inD_str, notInD_str, slD_lst, slD_scr, revD_lst, itemsD_lst, itemsD_tup, itemsD_str, Bool.not_true, Bool.not_false, ixD_l, ixD_t, ofSome, atI_0, atI_1, atI_2, atI_3, atI_4, atI_app, slotD_obj, propD_obj, propN_obj, isC_obj, get0, get1, get2, get3, getS, bName_eq, bTup_eq, bCons_eq, bNil_eq, setAll2_cons, setAll2_nil, setAllD_cons, setAllD_nil, wipeD_cons, wipeD_nil, isi_str_str, isi_int_int, isi_bool_int, List.getElem?_cons_zero, List.getElem?_cons_succ, ↓q_nIf, q_minG2, q_minGs, q_eqC, q_isiO, q_isiO_i, q_isiO_s, q_isiO_n, q_isiO_l, q_isiO_t, q_cndN, q_szL, q_sloL1, q_sloL2, q_sloL3, q_c0, q_c1, q_c2, q_c3, q_c4, q_c5, q_c6, q_c7, q_c8, q_c9, q_c10, q_c11, q_c12, q_c13, q_c14, q_c15, q_c16, q_eqBl, q_neBl, q_bin4, q_sumL, q_disp, q_prs0, q_prs1, q_dc, q_tput, q_tputK, q_inT, q_inTK, q_getT, q_getTK, q_keysI1, q_keys2s, q_keys2i, q_keys2ii, q_neC, q_augSub, q_shr, eq_self, cnd_dt, cnd_df, Int.toNat_natCast, lenF_str, modD_int, divD_int, addD_str, addD_lst, slD_str, revD_str, ixD_str, ixD_str1, ixD_strmod, rng1_int, rng2_int, mulD_intl, mulD_intr, intF_dig, q_comp0, q_compC])
local macro_rules | `(tactic| walk_at "evh") => `(tactic| try simp -implicitDefEqProofs -dsimp (disch := walk_at "dis") only [after_is, rule_signs, rule_table, is_shape_is, make_rule, ↓q_seq, ↓q_seqK_nx, ↓q_seqK_rt, ↓q_seqK_rn, ↓q_seqK_bk, ↓q_seqK_ct, ↓q_runD, ↓q_runN, q_runK_rt, q_runK_rn, q_runK_nx, q_runKN_rn, ↓q_set, ↓q_setN, ↓q_ret, ↓q_retN, ↓q_drop, ↓q_if, ↓q_unp, q_unpK, ↓q_par, q_parK, ↓q_app, q_appK, ↓q_aug, q_augK, q_addF_int, q_addF_str, q_guard, ↓q_for, ↓q_forR, q_loopK_nx, q_loopK_ct, q_loopK_bk, q_loopK_rt, q_loopK_rn, ↓q_sNil, ↓q_e2, ↓q_t2, ↓q_e1, ↓q_cst, ↓q_aN, ↓q_aC, ↓q_call, ↓q_callN, ↓q_eN, ↓q_nLst, q_lstK, ↓q_eTup, q_tupK, ↓q_tVal, ↓q_tNot, ↓q_tAnd, ↓q_tOr, ↓q_eAnd, ↓q_eOr, ↓q_eNot, ↓q_eIf, ↓q_iAny, ↓q_iRg1, ↓q_iRg2, ↓q_iEnum, ↓q_nLc, ↓q_cT, ↓q_oN, ↓q_oS, ↓q_eSl, ↓q_eChain, ↓q_tBl, ↓q_eMake, ↓q_eMeth, ↓q_nMeth, ↓q_n1M, ↓q_iSeq, q_selK, q_self, ↓q_iTwo, ↓q_iTwoS, q_two2s, q_two2, ↓q_ext, q_extK, ↓q_nLc2, q_count, q_inE, q_notInE, q_is_non, q_is_str, q_is_int, q_is_tup, q_is_lst, q_isnt_non, q_isnt_str, q_isnt_int, q_isnt_tup, q_isnt_lst, q_list_l, q_list_t, q_tuple_l, q_tuple_t, q_max2, q_min2, q_sum, q_ixF_s, q_ixF_l, q_ixF_t, q_ixF_b, q_inF_s, q_inF_l, q_inF_t, q_lenG_s, q_lenG_l, q_lenG_t, q_lenG_d, q_lenG_dt, ↓q_setD, ↓q_dput, q_dputK, q_keyI, q_keyS, q_seeT, q_toDv, q_toDl, q_toDk, q_toDt, q_toDs0, q_toDs1, q_toDsm, q_fls0, q_fls1, q_flv, q_fll, q_flk, q_flt, q_flsm, q_sloV, q_sloK, q_sloT, q_sloL, q_sloLl, ↓q_oV, ↓q_oL, ↓q_oC, ↓q_oaN, ↓q_oaC, ↓q_oLst, q_oLstK, ↓q_setO, ↓q_parO, q_parOK, ↓q_parO3, q_parO3K, ↓q_appAt, q_appAtK, q_appAtK2, q_flatS, q_flatI, q_flatS2, q_mapv0, q_sloL0, bnd_ret, bnd_assoc, bnd_assoc', bnd_r, cnd_t, cnd_f, fail_bnd, bind_bnd, str01, List.cons.injEq, and_true, decide_true, decide_false, cut_toN, cut_fromN, cut_from1N, cut_to1N, cut_to1, cut_to2, cut_to3, cut_from1, cut_toM1, cut_fromM1, DL.startD, List.map_cons, List.map_nil, List.length_cons, List.length_nil, Nat.reduceAdd, Nat.reduceSub, List.replicate, List.cons_append, List.nil_append, view_eq, viewAt_cons, viewAt_nil, List.contains_cons, List.contains_nil, Nat.reduceBEq, Bool.or_true, Bool.or_false, Bool.true_or, Bool.false_or, if_true, Bool.false_eq_true, if_false, Option.map_some, Option.map_none, see_val, see_own, rd_0, rd_1, rd_2, rd_3, rd_4, rd_5, rd_6, rd_7, rd_8, rd_9, rd_10, rd_11, rd_12, rd_13, rd_14, rd_15, rd_16, rd_17, rd_18, rd_19, rd_20, rd_21, rd_22, rd_23, rd_24, rd_25, rd_26, rd_27, rd_28, rd_29, rd_30, rd_31, rd_32, rd_33, rd_34, rd_35, rd_36, rd_37, rd_38, rd_39, rd_40, rd_41, rd_42, rd_43, rd_44, rd_45, Int.reduceToNat, flat_int, flat_str, flat_bl, flat_non, flat_bag, flat_lst, flat_tup, flat_obj, List.all_cons, List.all_nil, Bool.and_true, Bool.true_and, Bool.and_false, Bool.false_and, keepIf_t, keepIf_f, frz_eq, frzAt_cons, frzAt_nil, List.set_cons_succ, List.set_cons_zero, subD_int, addD_int, negD_int, asI_int, asB_bl, truD_bl, lenF_lst, lenF_tup, intF_int, intF_bl, absF_int, ltD_int, leD_int, gtD_int, geD_int, eqD_int, eqD_str, neD_int, neD_str, inD_str, notInD_str, slD_lst, slD_scr, revD_lst, itemsD_lst, itemsD_tup, itemsD_str, Bool.not_true, Bool.not_false, ixD_l, ixD_t, ofSome, atI_0, atI_1, atI_2, atI_3, atI_4, atI_app, slotD_obj, propD_obj, propN_obj, isC_obj, get0, get1, get2, get3, getS, bName_eq, bTup_eq, bCons_eq, bNil_eq, setAll2_cons, setAll2_nil, setAllD_cons, setAllD_nil, wipeD_cons, wipeD_nil, isi_str_str, isi_int_int, isi_bool_int, List.getElem?_cons_zero, List.getElem?_cons_succ, ↓q_nIf, q_minG2, q_minGs, q_eqC, q_isiO, q_isiO_i, q_isiO_s, q_isiO_n, q_isiO_l, q_isiO_t, q_cndN, q_szL, q_sloL1, q_sloL2, q_sloL3, q_c0, q_c1, q_c2, q_c3, q_c4, q_c5, q_c6, q_c7, q_c8, q_c9, q_c10, q_c11, q_c12, q_c13, q_c14, q_c15, q_c16, q_eqBl, q_neBl, q_bin4, q_sumL, q_disp, q_prs0, q_prs1, q_dc, q_tput, q_tputK, q_inT, q_inTK, q_getT, q_getTK, q_keysI1, q_keys2s, q_keys2i, q_keys2ii, q_neC, q_augSub, q_shr, eq_self, cnd_dt, cnd_df, Int.toNat_natCast, lenF_str, modD_int, divD_int, addD_str, addD_lst, slD_str, revD_str, ixD_str, ixD_str1, ixD_strmod, rng1_int, rng2_int, mulD_intl, mulD_intr, intF_dig, *])
local macro_rules | `(tactic| walk_at "env") => `(tactic| try simp -implicitDefEqProofs only [List.all_cons, List.all_nil, Bool.and_true, Bool.true_and, setAll2_cons, setAll2_nil, bName_eq, env0, List.replicate, flat_int, flat_str, flat_bl, flat_non, flat_bag, flat_lst, flat_tup, flat_obj, keepIf_t, keepIf_f, frz_eq, frzAt_cons, frzAt_nil, List.contains_cons, List.contains_nil, Nat.reduceBEq, Nat.reduceAdd, Bool.or_true, Bool.or_false, Bool.true_or, if_true, Bool.false_eq_true, if_false, Option.map_some, Option.map_none, see_val, see_own, List.set_cons_succ, List.set_cons_zero])
/-! ### all tables -/
def tabs : List (List Nat) := (List.range 16).map bin4
theorem tabs_len : tabs.length = 16 := rfl
theorem bin4_bin {k : Nat} : BinT (bin4 k) := by
  refine ⟨rfl, fun c hc => ?_⟩
  unfold bin4 at hc
  simp only [List.mem_cons, List.not_mem_nil, or_false] at hc
  omega
theorem tabs_bin {t : List Nat} (h : t ∈ tabs) : BinT t := by
  obtain ⟨k, _, rfl⟩ := List.mem_map.mp h
  exact bin4_bin
theorem mem_tabs {t : List Nat} : t ∈ tabs ↔ BinT t := by
  refine ⟨tabs_bin, fun h => ?_⟩
  match t, h with
  | [a, b, c, d], h =>
    have ha := h.2 a (by simp)
    have hb := h.2 b (by simp)
    have hc := h.2 c (by simp)
    have hd := h.2 d (by simp)
    rcases ha with rfl | rfl <;> rcases hb with rfl | rfl <;> rcases hc with rfl | rfl <;> rcases hd with rfl | rfl <;> decide
  | [], h => exact absurd h.1 (by simp)
  | [_], h => exact absurd h.1 (by simp)
  | [_, _], h => exact absurd h.1 (by simp)
  | [_, _, _], h => exact absurd h.1 (by simp)
  | _ :: _ :: _ :: _ :: _ :: _, h => exact absurd h.1 (by simp)
theorem all_of_is {r : Nat} (hr : r ≤ 2) : R_Rule_all_of [.int (r : Int)] = M.ret (tabs.map fun t => rul t r) := by
  simp only [R_Rule_all_of, F_Rule_all_of]
  walk_at "ev"
  rw [compM_mapI (l := fun (k : Nat) => [(1, D.int (0 + (k : Int)))]) (y := fun (k : Nat) => rul (bin4 k) r) (fun k hk => ⟨rfl, rfl, ?_⟩)]
  · walk_at "ev"
    unfold tabs
    rw [List.map_map]
    rfl
  · have hk := List.mem_range.mp hk
    have hk : k < 16 := by simpa using hk
    walk_at "ev"
    rw [show (0 + (k : Int)).toNat = k by omega, make_rule bin4_bin hr]
    walk_at "ev"
theorem law_tables_is : R__law_tables [] = M.ret (strL tabs) := by
  funext b
  rfl
/-! ### stands -/
def fitB (r : Nat) (x : List Nat) : Bool := x.all fun c => decide (c ∈ sigs r)
theorem fitB_iff {r : Nat} (hr : r ≤ 2) {x : List Nat} : fitB r x = true ↔ Sg r x := by
  unfold fitB
  rw [List.all_eq_true]
  constructor
  · intro h c hc
    exact (sigs_mem hr).mp (of_decide_eq_true (h c hc))
  · intro h c hc
    exact decide_eq_true ((sigs_mem hr).mpr (h c hc))
theorem is_stand_is {x s : List Nat} (hz : x.length ≤ 100000) (h0 : 1 ≤ x.length) : R_is_stand [.str x, .str s] = M.ret (.bl (x.all fun c => decide (c ∈ s))) := by
  simp only [R_is_stand, F_is_stand]
  walk_at "ev"
  rw [is_row_is x s hz]
  walk_at "ev"
  cases h : x.all fun c => decide (c ∈ s)
  · rfl
  · walk_at "ev"
    rw [decide_eq_false (show ¬ x = [] from fun e => by rw [e] at h0; simp at h0)]
    rfl
def tabO (x y : List Nat) (r n : Nat) : List (List Nat) := if (fitB r x && fitB r y) = true then tabs.filter fun t => decide (itN (ringL t r) n x = y) else []
theorem tabO_len (x y : List Nat) (r n : Nat) : (tabO x y r n).length ≤ 16 := by
  unfold tabO
  split
  · exact Nat.le_trans (List.length_filter_le _ _) (Nat.le_of_eq tabs_len)
  · simp
theorem tabO_mem {x y : List Nat} {r n : Nat} {t : List Nat} (h : t ∈ tabO x y r n) : t ∈ tabs := by
  unfold tabO at h
  split at h
  · exact (List.mem_filter.mp h).1
  · cases h
theorem tables_of_is {x y : List Nat} {r n : Nat} (hr : r ≤ 2) (x0 : 1 ≤ x.length) (xz : x.length ≤ 1000) (y0 : 1 ≤ y.length) (yz : y.length ≤ 1000) (hn : n ≤ 1000) : R_tables_of [.str x, .str y, .int (r : Int), .int (n : Int)] = M.ret (strL (tabO x y r n)) := by
  have i1 := is_stand_is (x := x) (s := sigs r) (by omega) x0
  have i2 := is_stand_is (x := y) (s := sigs r) (by omega) y0
  have ex : ∀ z : List Nat, (z.all fun c => decide (c ∈ sigs r)) = fitB r z := fun _ => rfl
  rw [ex] at i1 i2
  simp only [R_tables_of, F_tables_of]
  walk_at "ev"
  rw [all_of_is hr]
  walk_at "ev"
  refine Ev.eq (ev_loop (fun i ρ => ∃ s5, ρ = [some (.val (.str x)), some (.val (.str y)), some (.val (.int (r : Int))), some (.val (.int (n : Int))), some (.own (strL (if (fitB r x && fitB r y) = true then (tabs.take i).filter fun t => decide (itN (ringL t r) n x = y) else []))), s5]) ⟨none, by simp⟩ ?_ ?_)
  · rintro i d ρ hd ⟨s5, rfl⟩
    obtain ⟨t, ht, rfl⟩ := get_map hd
    have hm := tabs_bin (List.mem_of_getElem? ht)
    have ti : tabs.take (i + 1) = tabs.take i ++ [t] := by rw [List.take_add_one, ht]; rfl
    refine ⟨_, rfl, ?_⟩
    walk_at "env"
    walk_at "ev"
    rw [i1]
    by_cases h1 : fitB r x = true
    · have sx := (fitB_iff hr).mp h1
      rw [h1]
      walk_at "ev"
      rw [i2]
      by_cases h2 : fitB r y = true
      · rw [h2]
        walk_at "ev"
        have hl : ((tabs.take i).filter fun t => decide (itN (ringL t r) n x = y)).length ≤ 16 := Nat.le_trans (List.length_filter_le _ _) (Nat.le_trans (List.length_take_le' _ _) (Nat.le_of_eq tabs_len))
        by_cases h3 : itN (ringL t r) n x = y
        · rw [cnd_dt h3]
          simp only [Bool.true_and, if_true, ti, List.filter_append]
          walk_at "ev"
          simp only [List.filter_cons, List.filter_nil, h3, decide_true, if_true]
          exact Ev.ret ⟨_, .inl rfl, _, by simp only [strL, List.map_append, List.map_cons, List.map_nil]; rfl⟩
        · rw [cnd_df h3]
          simp only [Bool.true_and, if_true, ti, List.filter_append]
          walk_at "ev"
          simp only [List.filter_cons, List.filter_nil, h3, decide_false, Bool.false_eq_true, if_false, List.append_nil]
          exact Ev.ret ⟨_, .inl rfl, _, rfl⟩
      · rw [Bool.not_eq_true] at h2
        rw [h2]
        walk_at "ev"
        exact Ev.ret ⟨_, .inl rfl, _, rfl⟩
    · rw [Bool.not_eq_true] at h1
      rw [h1]
      walk_at "ev"
      exact Ev.ret ⟨_, .inl rfl, _, rfl⟩
  · rintro ρ ⟨s5, rfl⟩
    rw [List.length_map, List.take_length]
    walk_at "ev"
    exact Ev.ret rfl
def tabP (x : List Nat) (p : Int) (q r : Nat) : List (List Nat) := if fitB r x = true then tabs.filter fun t => decide (itN (ringL t r) q x = turnL x p) else []
theorem tabP_len (x : List Nat) (p : Int) (q r : Nat) : (tabP x p q r).length ≤ 16 := by
  unfold tabP
  split
  · exact Nat.le_trans (List.length_filter_le _ _) (Nat.le_of_eq tabs_len)
  · simp
theorem tabP_mem {x : List Nat} {p : Int} {q r : Nat} {t : List Nat} (h : t ∈ tabP x p q r) : t ∈ tabs := by
  unfold tabP at h
  split at h
  · exact (List.mem_filter.mp h).1
  · cases h
theorem tables_shape_is {x : List Nat} {r q : Nat} {p : Int} (hr : r ≤ 2) (x0 : 1 ≤ x.length) (xz : x.length ≤ 1000) (hq : q ≤ 1000) : R_tables_with_shape [.str x, .int p, .int (q : Int), .int (r : Int)] = M.ret (strL (tabP x p q r)) := by
  have i1 := is_stand_is (x := x) (s := sigs r) (by omega) x0
  have ex : (x.all fun c => decide (c ∈ sigs r)) = fitB r x := rfl
  rw [ex] at i1
  simp only [R_tables_with_shape, F_tables_with_shape]
  walk_at "ev"
  rw [all_of_is hr]
  walk_at "ev"
  rw [compM_filterI (l := fun t => [(5, rul t r)]) (k := fun _ => fitB r x) (y := fun t => rul t r) (fun t ht => ⟨rfl, by walk_at "ev"; rw [i1]; walk_at "ev", by walk_at "ev"⟩)]
  unfold tabP
  by_cases h1 : fitB r x = true
  · have sx := (fitB_iff hr).mp h1
    rw [h1, show (tabs.filter fun _ => true) = tabs from List.filter_eq_self.mpr fun _ _ => rfl, if_pos rfl]
    have tl := tabs_len
    have tf : (tabs.map fun t => rul t r).all D.flat = false := rfl
    walk_at "ev"
    rw [tf]
    walk_at "ev"
    rw [compM_filterI (l := fun t => [(5, rul t r)]) (k := fun t => decide (itN (ringL t r) q x = turnL x p)) (y := fun t => D.str t) (fun t ht => ⟨rfl, by
      have := tabs_bin ht
      walk_at "ev", by walk_at "ev"⟩)]
    have := Nat.le_trans (List.length_filter_le (fun t => decide (itN (ringL t r) q x = turnL x p)) tabs) (Nat.le_of_eq tabs_len)
    walk_at "ev"
  · rw [Bool.not_eq_true] at h1
    rw [h1, show (tabs.filter fun _ => false) = [] from List.filter_eq_nil_iff.mpr fun _ _ => by simp, if_neg (by simp)]
    walk_at "evc"
theorem strL_tab_okd {l : List (List Nat)} (h : ∀ t ∈ l, t ∈ tabs) (hl : l.length ≤ 16) : Okd 1 803 (.lst (strL l)) :=
  (Okd.lst (k := 0) (w := 48) fun d hd => by
    obtain ⟨t, ht, rfl⟩ := List.mem_map.mp hd
    exact bin_okd (tabs_bin (h t ht)) (by omega)).mono (by omega) (by rw [List.length_map]; omega)
end LW
set_option Elab.async false
set_option maxRecDepth 100000
set_option autoImplicit false
set_option linter.unusedVariables false
set_option maxHeartbeats 4000000
namespace LW
open PySem L2 PySem.Spec PyProof.Rows DL
def top (i : Nat) : Stmt := PySem.Challenge.pw_standwaves_k76_whole_quiet_sizes.main.body.getD i (.Pass ⟨0, 0, 0, 0⟩)
abbrev s__law_bag : Stmt := top 24
abbrev s__law_take : Stmt := top 25
abbrev s_is_row : Stmt := top 6
abbrev s_is_table : Stmt := top 7
abbrev s_is_integer : Stmt := top 5
abbrev s_Rule___init__ : Stmt := inCls (top 13) 1
abbrev s_Rule_all_of : Stmt := inCls (top 13) 10
abbrev s_Rule_table : Stmt := inCls (top 13) 2
abbrev s_sign_after : Stmt := top 11
abbrev s_row_after_beat : Stmt := top 12
abbrev s_Rule_signs : Stmt := inCls (top 13) 4
abbrev s_Rule_ring_after : Stmt := inCls (top 13) 6
abbrev s_path_of : Stmt := top 18
abbrev s_Rule_is_still : Stmt := inCls (top 13) 12
abbrev s_still_from : Stmt := top 20
abbrev s_all_stands : Stmt := top 15
abbrev s_quiet_tables : Stmt := top 22
abbrev s_fate_of : Stmt := top 19
abbrev s_after : Stmt := top 17
abbrev s__law_stays_alive : Stmt := top 26
abbrev s_Rule_mirrored : Stmt := inCls (top 13) 8
abbrev s__law_right : Stmt := top 27
abbrev s_law : Stmt := top 28
structure Ads where
  a__law_bag : Addr
  d__law_bag : FuncData
  a__law_take : Addr
  d__law_take : FuncData
  a_is_row : Addr
  d_is_row : FuncData
  a_is_table : Addr
  d_is_table : FuncData
  a_is_integer : Addr
  d_is_integer : FuncData
  a_Rule___init__ : Addr
  d_Rule___init__ : FuncData
  a_Rule_all_of : Addr
  d_Rule_all_of : FuncData
  a_Rule_table : Addr
  d_Rule_table : FuncData
  a_sign_after : Addr
  d_sign_after : FuncData
  a_row_after_beat : Addr
  d_row_after_beat : FuncData
  a_Rule_signs : Addr
  d_Rule_signs : FuncData
  a_Rule_ring_after : Addr
  d_Rule_ring_after : FuncData
  a_path_of : Addr
  d_path_of : FuncData
  a_Rule_is_still : Addr
  d_Rule_is_still : FuncData
  a_still_from : Addr
  d_still_from : FuncData
  a_all_stands : Addr
  d_all_stands : FuncData
  a_quiet_tables : Addr
  d_quiet_tables : FuncData
  a_fate_of : Addr
  d_fate_of : FuncData
  a_after : Addr
  d_after : FuncData
  a__law_stays_alive : Addr
  d__law_stays_alive : FuncData
  a_Rule_mirrored : Addr
  d_Rule_mirrored : FuncData
  a__law_right : Addr
  d__law_right : FuncData
  a_law : Addr
  d_law : FuncData
  c_Rule : Addr
  p_Rule_its_rests : Addr
  p_Rule_its_table : Addr
  g_Rule_all_of : Addr
  g_Rule_table : Addr
  g_Rule_signs : Addr
structure Txt (K : PySem.W.Frag) (mg : Str → Option Value) (FA : Ads) : Prop where
  _law_bag : FnAt K mg "_law_bag" s__law_bag ["_law_script"] FA.a__law_bag FA.d__law_bag
  _law_take : FnAt K mg "_law_take" s__law_take ["_law_bag_here", "_law_many"] FA.a__law_take FA.d__law_take
  is_row : FnAt K mg "is_row" s_is_row ["thing", "signs"] FA.a_is_row FA.d_is_row
  is_table : FnAt K mg "is_table" s_is_table ["thing"] FA.a_is_table FA.d_is_table
  is_integer : FnAt K mg "is_integer" s_is_integer ["thing"] FA.a_is_integer FA.d_is_integer
  Rule___init__ : InitAt K FA.c_Rule "Rule.__init__" s_Rule___init__ ["self", "table", "rests"] FA.a_Rule___init__ FA.d_Rule___init__
  Rule_all_of : StatAt K FA.c_Rule FA.g_Rule_all_of "all_of" "Rule.all_of" s_Rule_all_of ["rests"] FA.a_Rule_all_of FA.d_Rule_all_of
  Rule_table : GetAt K FA.c_Rule FA.g_Rule_table "table" "Rule.table" s_Rule_table ["self"] FA.a_Rule_table FA.d_Rule_table
  sign_after : FnAt K mg "sign_after" s_sign_after ["table", "last", "left", "seat", "right"] FA.a_sign_after FA.d_sign_after
  row_after_beat : FnAt K mg "row_after_beat" s_row_after_beat ["table", "last", "row"] FA.a_row_after_beat FA.d_row_after_beat
  Rule_signs : GetAt K FA.c_Rule FA.g_Rule_signs "signs" "Rule.signs" s_Rule_signs ["self"] FA.a_Rule_signs FA.d_Rule_signs
  Rule_ring_after : MethAt K FA.c_Rule "ring_after" "Rule.ring_after" s_Rule_ring_after ["self", "text"] FA.a_Rule_ring_after FA.d_Rule_ring_after
  path_of : FnAt K mg "path_of" s_path_of ["rule", "text"] FA.a_path_of FA.d_path_of
  Rule_is_still : MethAt K FA.c_Rule "is_still" "Rule.is_still" s_Rule_is_still ["self", "text"] FA.a_Rule_is_still FA.d_Rule_is_still
  still_from : FnAt K mg "still_from" s_still_from ["rule", "text"] FA.a_still_from FA.d_still_from
  all_stands : FnAt K mg "all_stands" s_all_stands ["signs", "size"] FA.a_all_stands FA.d_all_stands
  quiet_tables : FnAt K mg "quiet_tables" s_quiet_tables ["rests", "size"] FA.a_quiet_tables FA.d_quiet_tables
  fate_of : FnAt K mg "fate_of" s_fate_of ["rule", "text"] FA.a_fate_of FA.d_fate_of
  after : FnAt K mg "after" s_after ["rule", "text", "many"] FA.a_after FA.d_after
  _law_stays_alive : FnAt K mg "_law_stays_alive" s__law_stays_alive ["_law_rule", "_law_size"] FA.a__law_stays_alive FA.d__law_stays_alive
  Rule_mirrored : MethAt K FA.c_Rule "mirrored" "Rule.mirrored" s_Rule_mirrored ["self"] FA.a_Rule_mirrored FA.d_Rule_mirrored
  _law_right : FnAt K mg "_law_right" s__law_right ["_law_rests", "_law_size"] FA.a__law_right FA.d__law_right
  law : FnAt K mg "law" s_law ["_law_script"] FA.a_law FA.d_law
  C_Rule : ClsAt K mg 0 FA.c_Rule
  S_Rule_its_rests : SlX.Slot1 K FA.c_Rule "its_rests" FA.p_Rule_its_rests 0
  S_Rule_its_table : SlX.Slot1 K FA.c_Rule "its_table" FA.p_Rule_its_table 1
  k_MOST_RESTS : ∃ t, mg "MOST_RESTS" = some (.int 2 t)
  k_SIGNS : ∃ t, mg "SIGNS" = some (.str ⟨[48, 49, 50, 51].toArray⟩ t)
  b_abs : mg "abs" = none
  b_all : mg "all" = none
  b_bool : mg "bool" = none
  b_enumerate : mg "enumerate" = none
  b_int : mg "int" = none
  b_isinstance : mg "isinstance" = none
  b_len : mg "len" = none
  b_max : mg "max" = none
  b_range : mg "range" = none
  b_sorted : mg "sorted" = none
  b_str : mg "str" = none
section
variable {P : Program} {w : World} {K : PySem.W.Frag} {mg : Str → Option Value} {base : Heap} {FA : Ads}
theorem repr_room {A : Around} {k : Nat} (hr : Room k A) : A.units + 70 < cLine := by have := hr.un; omega
/-! _law_bag -/
theorem sc__law_bag : FnScope ["_law_script", "_law_cell"] ["_law_script"] (defScope s__law_bag) := ⟨rfl, rfl, rfl, by decide +kernel, rfl, by decide +kernel, by decide +kernel⟩
theorem ok__law_bag (T : Txt K mg FA) : FnOk P w K mg base CX0 1 FA.a__law_bag FA.d__law_bag ["_law_script"] (spN K 1 R__law_bag) :=
  fnN T._law_bag.fn sc__law_bag fun cdv A outer s H E hr =>
  (ss_one (s_retN [0, 1] (dn_lst (da_cons d_int (da_cons d_int (da_cons d_int (da_cons (d_n (dn_lc (own := [("_law_cell", 1)]) rfl sc__law_bag.nd (di_any (d_slice (dv 0) do_none (do_some d_int))) (blkOk_by (N := ["_law_script", "_law_cell"]) (sc := defScope s__law_bag) (by decide +kernel)) (tg_name 1) (by decide) (fun _ _ _ _ _ => (pg_name (i := 1) sc__law_bag.nd rfl (by first | exact Or.inl rfl | exact Or.inr rfl))) (fun _ _ _ _ _ => dts_nil) (fun _ _ _ _ _ => (d_abs rfl T.b_abs (da_cons (dv 1) da_nil))))) da_nil)))))))
/-! _law_take -/
theorem sc__law_take : FnScope ["_law_bag_here", "_law_many", "_law_begin", "_law_second", "_law_cell", "_law_mixed", "_law_value"] ["_law_bag_here", "_law_many"] (defScope s__law_take) := ⟨rfl, rfl, rfl, by decide +kernel, rfl, by decide +kernel, by decide +kernel⟩
theorem ok__law_take (T : Txt K mg FA) : FnOk P w K mg base CX0 1 FA.a__law_take FA.d__law_take ["_law_bag_here", "_law_many"] (spD K 2 R__law_take) :=
  fnD T._law_take.fn sc__law_take fun cdv A outer s H E hr =>
  (ss_cons (s_if [0] (t_eq hr.units (d_ix (dv 0) d_int) d_int)
  (ss_cons (s_set 4 [] sc__law_take.nd rfl (by first | exact Or.inl rfl | exact Or.inr rfl) d_int)
  (ss_cons (s_if [0] (t_lt (d_ix (dv 0) d_int) (d_len rfl T.b_len (da_cons (d_ix (dv 0) d_int) da_nil)))
  (ss_one (s_set 4 [0] sc__law_take.nd rfl (by first | exact Or.inl rfl | exact Or.inr rfl) (d_ix (d_ix (dv 0) d_int) (d_ix (dv 0) d_int))))
  ss_nil)
  (ss_cons (s_bagaug 0 [] (by decide))
  (ss_cons (s_if [4] (t_ge (dv 4) d_int)
  (ss_one (s_bagset 0 [4] (dv 4)))
  ss_nil)
  (ss_cons (s_set 5 [0, 4] sc__law_take.nd rfl (by first | exact Or.inl rfl | exact Or.inr rfl) (d_add (d_add (d_mul (d_ix (dv 0) d_int) d_int) (d_mod (d_cint rfl T.b_int (da_cons (dv 4) da_nil)) d_int)) (d_mul d_int (d_ix (dv 0) d_int))))
  (ss_one (s_bagset 0 [5] (d_mod (d_cint rfl T.b_int (da_cons (dv 5) da_nil)) d_int))))))))
  ss_nil)
  (ss_cons (s_if [0] (t_gt (d_ix (dv 0) d_int) d_int)
  (ss_cons (s_set 6 [0, 1] sc__law_take.nd rfl (by first | exact Or.inl rfl | exact Or.inr rfl) (d_mod (d_cint rfl T.b_int (da_cons (d_ix (dv 0) d_int) da_nil)) (dv 1)))
  (ss_cons (s_bagset 0 [0, 1] (d_div (d_ix (dv 0) d_int) (dv 1)))
  (ss_one (s_ret [6] (dv 6)))))
  ss_nil)
  (ss_cons (s_set 2 [0] sc__law_take.nd rfl (by first | exact Or.inl rfl | exact Or.inr rfl) (d_mod (d_cint rfl T.b_int (da_cons (d_mul (d_add (d_ix (dv 0) d_int) d_int) d_int) da_nil)) d_int))
  (ss_cons (s_set 3 [2] sc__law_take.nd rfl (by first | exact Or.inl rfl | exact Or.inr rfl) (d_mod (d_cint rfl T.b_int (da_cons (d_mul (d_mod (d_cint rfl T.b_int (da_cons (d_mul (dv 2) (dv 2)) da_nil)) d_int) d_int) da_nil)) d_int))
  (ss_cons (s_if [1] (t_gt (dv 1) d_int)
  (ss_one (s_ret [1, 2, 3] (d_mod (d_cint rfl T.b_int (da_cons (d_add (d_mul (dv 3) d_int) (dv 2)) da_nil)) (dv 1))))
  ss_nil)
  (ss_one (s_ret [1, 3] (d_mod (d_cint rfl T.b_int (da_cons (d_div (dv 3) d_int) da_nil)) (dv 1)))))))))
/-! is_row -/
theorem sc_is_row : FnScope ["thing", "signs", "sign"] ["thing", "signs"] (defScope s_is_row) := ⟨rfl, rfl, rfl, by decide +kernel, rfl, by decide +kernel, by decide +kernel⟩
theorem ok_is_row (T : Txt K mg FA) : FnOk P w K mg base CX0 1 FA.a_is_row FA.d_is_row ["thing", "signs"] (spD K 2 R_is_row) :=
  fnD T.is_row.fn sc_is_row fun cdv A outer s H E hr =>
  (ss_one (s_ret [0, 1, 2] (d_and (d_isi (T := "str") (by decide) rfl T.b_isinstance rfl T.b_str (by decide +kernel) (dv 0)) (d_one (d_all rfl rfl T.b_all (da_cons (d_n (dn_lc (own := [("sign", 2)]) rfl sc_is_row.nd (di_any (dv 0)) (blkOk_by (N := ["thing", "signs", "sign"]) (sc := defScope s_is_row) (by decide +kernel)) (tg_name 2) (by decide) (fun _ _ _ _ _ => (pg_name (i := 2) sc_is_row.nd rfl (by first | exact Or.inl rfl | exact Or.inr rfl))) (fun _ _ _ _ _ => dts_nil) (fun _ _ _ _ _ => (d_inF hr.units (dv 2) (dv 1))))) da_nil))))))
/-! is_table -/
theorem sc_is_table : FnScope ["thing"] ["thing"] (defScope s_is_table) := ⟨rfl, rfl, rfl, by decide +kernel, rfl, by decide +kernel, by decide +kernel⟩
theorem ok_is_table (T : Txt K mg FA) : FnOk P w K mg base CX0 2 FA.a_is_table FA.d_is_table ["thing"] (spD K 1 R_is_table) :=
  fnD T.is_table.fn sc_is_table fun cdv A outer s H E hr =>
  (ss_one (s_ret [0] (d_and (d_call (ok_is_row T) (hr.mono (by decide)) rfl T.is_row.gl T.is_row.fn.kp T.is_row.bd (da_cons (dv 0) (da_cons (d_str [48, 49]) da_nil)) (ar_cons (ar_cons ar_nil))) (d_one (d_eq hr.units (d_lenG rfl T.b_len (da_cons (dv 0) da_nil)) d_int)))))
/-! is_integer -/
theorem sc_is_integer : FnScope ["thing"] ["thing"] (defScope s_is_integer) := ⟨rfl, rfl, rfl, by decide +kernel, rfl, by decide +kernel, by decide +kernel⟩
theorem ok_is_integer (T : Txt K mg FA) : FnOk P w K mg base CX0 1 FA.a_is_integer FA.d_is_integer ["thing"] (spD K 1 R_is_integer) :=
  fnD T.is_integer.fn sc_is_integer fun cdv A outer s H E hr =>
  (ss_one (s_ret [0] (d_and (d_isi (T := "int") (by decide) rfl T.b_isinstance rfl T.b_int (by decide +kernel) (dv 0)) (d_one (d_not (d_isi (T := "bool") (by decide) rfl T.b_isinstance rfl T.b_bool (by decide +kernel) (dv 0)))))))
/-! Rule___init__ -/
theorem sc_Rule___init__ : FnScope ["self", "table", "rests"] ["self", "table", "rests"] (defScope s_Rule___init__) := ⟨rfl, rfl, rfl, by decide +kernel, rfl, by decide +kernel, by decide +kernel⟩
theorem ok_Rule___init__ (T : Txt K mg FA) : FnOk P w K mg base CX0 3 FA.a_Rule___init__ FA.d_Rule___init__ ["self", "table", "rests"] (spI K 2 FA.c_Rule ruleI) :=
  fnI T.Rule___init__.fn sc_Rule___init__ rfl init_Rule fun cdv A outer s H E hr =>
  (i_cons (s_if [1] (t_not (t_val (d_call (ok_is_table T) (hr.mono (by decide)) rfl T.is_table.gl T.is_table.fn.kp T.is_table.bd (da_cons (dv 1) da_nil) (ar_cons ar_nil))))
  (ss_one s_fail)
  ss_nil)
  (i_cons (s_if [2] (t_w (w_or (t_not (t_val (d_call (ok_is_integer T) (hr.mono (by decide)) rfl T.is_integer.gl T.is_integer.fn.kp T.is_integer.bd (da_cons (dv 2) da_nil) (ar_cons ar_nil)))) (w_or1 (t_not (t_chain op_le op_le snd_cmp snd_cmp d_int (dv 2) (d_gint 2 rfl T.k_MOST_RESTS))))))
  (ss_one s_fail)
  ss_nil)
  (i_twoS [1, 2] rfl T.C_Rule.cl T.S_Rule_its_table T.S_Rule_its_rests rfl (by first | exact Or.inl rfl | exact Or.inr (Or.inl rfl) | exact Or.inr (Or.inr rfl)) (d_tup (da_cons (dv 1) (da_cons (dv 2) da_nil))))))
/-! Rule_all_of -/
theorem sc_Rule_all_of : FnScope ["rests", "number"] ["rests"] (defScope s_Rule_all_of) := ⟨rfl, rfl, rfl, by decide +kernel, rfl, by decide +kernel, by decide +kernel⟩
theorem ok_Rule_all_of (T : Txt K mg FA) : FnOk P w K mg base CX0 5 FA.a_Rule_all_of FA.d_Rule_all_of ["rests"] (spN K 1 R_Rule_all_of) :=
  fnN T.Rule_all_of.fn sc_Rule_all_of fun cdv A outer s H E hr =>
  (ss_one (s_retN [0, 1] (dn_lc (own := [("number", 1)]) rfl sc_Rule_all_of.nd (di_r (dr_range1 rfl T.b_range (da_cons d_int da_nil))) (blkOk_by (N := ["rests", "number"]) (sc := defScope s_Rule_all_of) (by decide +kernel)) (tg_name 1) (by decide) (fun _ _ _ _ _ => (pg_name (i := 1) sc_Rule_all_of.nd rfl (by first | exact Or.inl rfl | exact Or.inr rfl))) (fun _ _ _ _ _ => dts_nil) (fun _ _ _ _ _ => (d_make T.C_Rule T.Rule___init__.im (ok_Rule___init__ T) T.Rule___init__.bd (hr.mono (by decide)) rfl T.C_Rule.gl (da_cons (d_04b (dv 1)) (da_cons (dv 0) da_nil)) (ar_cons (ar_cons ar_nil)))))))
/-! Rule_table -/
theorem sc_Rule_table : FnScope ["self"] ["self"] (defScope s_Rule_table) := ⟨rfl, rfl, rfl, by decide +kernel, rfl, by decide +kernel, by decide +kernel⟩
theorem ok_Rule_table (T : Txt K mg FA) : FnOk P w K mg base CX0 1 FA.a_Rule_table FA.d_Rule_table ["self"] (spD K 1 R_Rule_table) :=
  fnD T.Rule_table.fn sc_Rule_table fun cdv A outer s H E hr =>
  (ss_one (s_ret [0] (d_slot T.C_Rule T.S_Rule_its_table (dv 0))))
/-! sign_after -/
theorem sc_sign_after : FnScope ["table", "last", "left", "seat", "right"] ["table", "last", "left", "seat", "right"] (defScope s_sign_after) := ⟨rfl, rfl, rfl, by decide +kernel, rfl, by decide +kernel, by decide +kernel⟩
theorem ok_sign_after (T : Txt K mg FA) : FnOk P w K mg base CX0 1 FA.a_sign_after FA.d_sign_after ["table", "last", "left", "seat", "right"] (spD K 5 R_sign_after) :=
  fnD T.sign_after.fn sc_sign_after fun cdv A outer s H E hr =>
  (ss_cons (s_if [3] (t_eq hr.units (dv 3) (d_str [48]))
  (ss_one (s_ret [0, 2, 4] (d_ixF hr.units (dv 0) (d_add (d_mul d_int (d_cint rfl T.b_int (da_cons (d_eq hr.units (dv 2) (d_str [49])) da_nil))) (d_cint rfl T.b_int (da_cons (d_eq hr.units (dv 4) (d_str [49])) da_nil))))))
  ss_nil)
  (ss_one (s_ret [1, 3] (d_if (t_eq hr.units (dv 3) (dv 1)) (d_str [48]) (d_ixF hr.units (d_gstr [48, 49, 50, 51] rfl T.k_SIGNS) (d_add (d_cint rfl T.b_int (da_cons (dv 3) da_nil)) d_int))))))
/-! row_after_beat -/
theorem sc_row_after_beat : FnScope ["table", "last", "row", "at"] ["table", "last", "row"] (defScope s_row_after_beat) := ⟨rfl, rfl, rfl, by decide +kernel, rfl, by decide +kernel, by decide +kernel⟩
theorem ok_row_after_beat (T : Txt K mg FA) : FnOk P w K mg base CX0 2 FA.a_row_after_beat FA.d_row_after_beat ["table", "last", "row"] (spD K 3 R_row_after_beat) :=
  fnD T.row_after_beat.fn sc_row_after_beat fun cdv A outer s H E hr =>
  (ss_one (s_ret [0, 1, 2, 3] (d_join (d_str []) (d_n (dn_lc (own := [("at", 3)]) rfl sc_row_after_beat.nd (di_r (dr_range1 rfl T.b_range (da_cons (d_sub (d_lenG rfl T.b_len (da_cons (dv 2) da_nil)) d_int) da_nil))) (blkOk_by (N := ["table", "last", "row", "at"]) (sc := defScope s_row_after_beat) (by decide +kernel)) (tg_name 3) (by decide) (fun _ _ _ _ _ => (pg_name (i := 3) sc_row_after_beat.nd rfl (by first | exact Or.inl rfl | exact Or.inr rfl))) (fun _ _ _ _ _ => dts_nil) (fun _ _ _ _ _ => (d_call (ok_sign_after T) (hr.mono (by decide)) rfl T.sign_after.gl T.sign_after.fn.kp T.sign_after.bd (da_cons (dv 0) (da_cons (dv 1) (da_cons (d_ixF hr.units (dv 2) (dv 3)) (da_cons (d_ixF hr.units (dv 2) (d_add (dv 3) d_int)) (da_cons (d_ixF hr.units (dv 2) (d_add (dv 3) d_int)) da_nil))))) (ar_cons (ar_cons (ar_cons (ar_cons (ar_cons ar_nil))))))))))))
/-! Rule_signs -/
theorem sc_Rule_signs : FnScope ["self"] ["self"] (defScope s_Rule_signs) := ⟨rfl, rfl, rfl, by decide +kernel, rfl, by decide +kernel, by decide +kernel⟩
theorem ok_Rule_signs (T : Txt K mg FA) : FnOk P w K mg base CX0 1 FA.a_Rule_signs FA.d_Rule_signs ["self"] (spD K 1 R_Rule_signs) :=
  fnD T.Rule_signs.fn sc_Rule_signs fun cdv A outer s H E hr =>
  (ss_one (s_ret [0] (d_slice (d_gstr [48, 49, 50, 51] rfl T.k_SIGNS) do_none (do_some (d_add d_int (d_slot T.C_Rule T.S_Rule_its_rests (dv 0)))))))
/-! Rule_ring_after -/
theorem sc_Rule_ring_after : FnScope ["self", "text"] ["self", "text"] (defScope s_Rule_ring_after) := ⟨rfl, rfl, rfl, by decide +kernel, rfl, by decide +kernel, by decide +kernel⟩
theorem ok_Rule_ring_after (T : Txt K mg FA) : FnOk P w K mg base CX0 3 FA.a_Rule_ring_after FA.d_Rule_ring_after ["self", "text"] (spD K 2 R_Rule_ring_after) :=
  fnD T.Rule_ring_after.fn sc_Rule_ring_after fun cdv A outer s H E hr =>
  (ss_one (s_ret [0, 1] (d_call (ok_row_after_beat T) (hr.mono (by decide)) rfl T.row_after_beat.gl T.row_after_beat.fn.kp T.row_after_beat.bd (da_cons (d_slot T.C_Rule T.S_Rule_its_table (dv 0)) (da_cons (d_ixF hr.units (d_prop T.C_Rule T.Rule_signs.pr (ok_Rule_signs T) T.Rule_signs.bd (hr.mono (by decide)) (dv 0)) (d_neg d_int)) (da_cons (d_add (d_add (d_ixF hr.units (dv 1) (d_neg d_int)) (dv 1)) (d_ixF hr.units (dv 1) d_int)) da_nil))) (ar_cons (ar_cons (ar_cons ar_nil))))))
/-! path_of -/
theorem sc_path_of : FnScope ["rule", "text", "found", "seen"] ["rule", "text"] (defScope s_path_of) := ⟨rfl, rfl, rfl, by decide +kernel, rfl, by decide +kernel, by decide +kernel⟩
theorem ok_path_of (T : Txt K mg FA) : FnOk P w K mg base CX0 4 FA.a_path_of FA.d_path_of ["rule", "text"] (spN K 2 R_path_of) :=
  fnN T.path_of.fn sc_path_of fun cdv A outer s H E hr =>
  (ss_cons (s_parO 2 3 [] rfl sc_path_of.nd rfl rfl (by decide) rfl rfl (oa_cons (do_n (dn_lst da_nil)) (oa_cons do_0K oa_nil)))
  (ss_cons (s_while 1000000 [1, 3] PassesOwn.never (t_notInF hr.units (dv 1) (dv 3))
  (ss_cons (s_dput 3 [1] hr.units (dv 1) d_bl)
  (ss_cons (s_append 2 [1] (dv 1))
  (ss_one (s_set 1 [0, 1] sc_path_of.nd rfl (by first | exact Or.inl rfl | exact Or.inr rfl) (d_meth T.C_Rule T.Rule_ring_after.me (ok_Rule_ring_after T) T.Rule_ring_after.bd (hr.mono (by decide)) (dv 0) (da_cons (dv 1) da_nil) (ar_cons ar_nil)))))))
  (ss_one (s_retOwn 2))))
/-! Rule_is_still -/
theorem sc_Rule_is_still : FnScope ["self", "text", "sign"] ["self", "text"] (defScope s_Rule_is_still) := ⟨rfl, rfl, rfl, by decide +kernel, rfl, by decide +kernel, by decide +kernel⟩
theorem ok_Rule_is_still (T : Txt K mg FA) : FnOk P w K mg base CX0 1 FA.a_Rule_is_still FA.d_Rule_is_still ["self", "text"] (spD K 2 R_Rule_is_still) :=
  fnD T.Rule_is_still.fn sc_Rule_is_still fun cdv A outer s H E hr =>
  (ss_one (s_ret [0, 1, 2] (d_and (d_eq hr.units (d_ixF hr.units (d_slot T.C_Rule T.S_Rule_its_table (dv 0)) d_int) (d_str [48])) (d_one (d_all rfl rfl T.b_all (da_cons (d_n (dn_lc (own := [("sign", 2)]) rfl sc_Rule_is_still.nd (di_any (dv 1)) (blkOk_by (N := ["self", "text", "sign"]) (sc := defScope s_Rule_is_still) (by decide +kernel)) (tg_name 2) (by decide) (fun _ _ _ _ _ => (pg_name (i := 2) sc_Rule_is_still.nd rfl (by first | exact Or.inl rfl | exact Or.inr rfl))) (fun _ _ _ _ _ => dts_nil) (fun _ _ _ _ _ => (d_eq hr.units (dv 2) (d_str [48]))))) da_nil))))))
/-! still_from -/
theorem sc_still_from : FnScope ["rule", "text", "many", "stand"] ["rule", "text"] (defScope s_still_from) := ⟨rfl, rfl, rfl, by decide +kernel, rfl, by decide +kernel, by decide +kernel⟩
theorem ok_still_from (T : Txt K mg FA) : FnOk P w K mg base CX0 5 FA.a_still_from FA.d_still_from ["rule", "text"] (spD K 2 R_still_from) :=
  fnD T.still_from.fn sc_still_from fun cdv A outer s H E hr =>
  (ss_cons (s_for [0, 1] PassesOwn.never rfl (di_enum rfl T.b_enumerate (da_cons (d_n (dn_call (ok_path_of T) (hr.mono (by decide)) rfl T.path_of.gl T.path_of.fn.kp T.path_of.bd (da_cons (dv 0) (da_cons (dv 1) da_nil)) (ar_cons (ar_cons ar_nil)))) da_nil)) (pg_tup (by rfl) (pgs_cons (pg_name (i := 2) sc_still_from.nd rfl (by first | exact Or.inl rfl | exact Or.inr rfl)) (pgs_cons (pg_name (i := 3) sc_still_from.nd rfl (by first | exact Or.inl rfl | exact Or.inr rfl)) pgs_nil))) (tg_tup 2 (tgs_cons (tg_name 2) (tgs_cons (tg_name 3) tgs_nil)))
  (ss_one (s_if [0, 3] (t_val (d_meth T.C_Rule T.Rule_is_still.me (ok_Rule_is_still T) T.Rule_is_still.bd (hr.mono (by decide)) (dv 0) (da_cons (dv 3) da_nil) (ar_cons ar_nil)))
  (ss_one (s_ret [2] (dv 2)))
  ss_nil)))
  (ss_one (s_ret [] d_non)))
/-! all_stands -/
theorem sc_all_stands : FnScope ["signs", "size", "found", "turn", "text", "sign"] ["signs", "size"] (defScope s_all_stands) := ⟨rfl, rfl, rfl, by decide +kernel, rfl, by decide +kernel, by decide +kernel⟩
theorem ok_all_stands (T : Txt K mg FA) : FnOk P w K mg base CX0 1 FA.a_all_stands FA.d_all_stands ["signs", "size"] (spN K 2 R_all_stands) :=
  fnN T.all_stands.fn sc_all_stands fun cdv A outer s H E hr =>
  (ss_cons (s_setN 2 [] sc_all_stands.nd rfl (by first | exact Or.inl rfl | exact Or.inr rfl) (dn_lst (da_cons (d_str []) da_nil)))
  (ss_cons (s_forR [1] PassesOwn.never rfl (dr_range1 rfl T.b_range (da_cons (dv 1) da_nil)) (pg_name (i := 3) sc_all_stands.nd rfl (by first | exact Or.inl rfl | exact Or.inr rfl)) (tg_name 3)
  (ss_one (s_setLc2 (own := [("text", 4), ("sign", 5)]) (vs1 := [5]) 2 [0, 2, 4, 5] rfl sc_all_stands.nd rfl rfl (sw_true rfl rfl rfl (by decide +kernel)) (di_any (dv 2)) (blkOk_by (N := ["signs", "size", "found", "turn", "text", "sign"]) (sc := defScope s_all_stands) (by decide +kernel)) (by decide) (tg_name 4) (tg_name 5) (by decide) (by decide) (fun _ _ _ _ _ => (pg_name (i := 4) sc_all_stands.nd rfl (by first | exact Or.inl rfl | exact Or.inr rfl))) (fun _ _ _ _ _ => dts_nil) (fun _ _ _ _ _ => (di_any (dv 0))) (fun _ _ _ _ _ => (pg_name (i := 5) sc_all_stands.nd rfl (by first | exact Or.inl rfl | exact Or.inr rfl))) (fun _ _ _ _ _ => dts_nil) (fun _ _ _ _ _ => (d_add (dv 4) (dv 5))))))
  (ss_one (s_retOwn 2))))
/-! quiet_tables -/
def F_quiet_tables : Env2 → M Out :=
  (seqM (setNM 2 [] (nLst aN))
  (seqM (forA [0] (iAny (eN (nCall R_Rule_all_of (aC (rdEnv 0) aN)))) (bName 3)
  (ifM [1, 3, 4] (tVal (eCall allF (aC (eN (nLc [4] (iAny (eN (nCall R_all_stands (aC (e1 (propD 0 R_Rule_signs) (rdEnv 3)) (aC (rdEnv 1) aN))))) (bName 4) cT (e2 (isD true) (eCall R_still_from (aC (rdEnv 3) (aC (rdEnv 4) aN))) (cst .non)))) aN)))
  (appM 2 [3] (e1 (propD 0 R_Rule_table) (rdEnv 3)))
  sNil))
  (retOwn 2)))
def R_quiet_tables : List D → M (List D) := runN 5 F_quiet_tables
theorem sc_quiet_tables : FnScope ["rests", "size", "found", "rule", "text"] ["rests", "size"] (defScope s_quiet_tables) := ⟨rfl, rfl, rfl, by decide +kernel, rfl, by decide +kernel, by decide +kernel⟩
theorem ok_quiet_tables (T : Txt K mg FA) : FnOk P w K mg base CX0 6 FA.a_quiet_tables FA.d_quiet_tables ["rests", "size"] (spN K 2 R_quiet_tables) :=
  fnN T.quiet_tables.fn sc_quiet_tables fun cdv A outer s H E hr =>
  (ss_cons (s_setN 2 [] sc_quiet_tables.nd rfl (by first | exact Or.inl rfl | exact Or.inr rfl) (dn_lst da_nil))
  (ss_cons (s_for [0] PassesOwn.never rfl (di_any (d_n (dn_smeth T.C_Rule T.Rule_all_of.sm (ok_Rule_all_of T) T.Rule_all_of.bd (hr.mono (by decide)) rfl rfl (da_cons (dv 0) da_nil) (ar_cons ar_nil)))) (pg_name (i := 3) sc_quiet_tables.nd rfl (by first | exact Or.inl rfl | exact Or.inr rfl)) (tg_name 3)
  (ss_one (s_if [1, 3, 4] (t_val (d_all rfl rfl T.b_all (da_cons (d_n (dn_lc (own := [("text", 4)]) rfl sc_quiet_tables.nd (di_any (d_n (dn_call (ok_all_stands T) (hr.mono (by decide)) rfl T.all_stands.gl T.all_stands.fn.kp T.all_stands.bd (da_cons (d_prop T.C_Rule T.Rule_signs.pr (ok_Rule_signs T) T.Rule_signs.bd (hr.mono (by decide)) (dv 3)) (da_cons (dv 1) da_nil)) (ar_cons (ar_cons ar_nil))))) (blkOk_by (N := ["rests", "size", "found", "rule", "text"]) (sc := defScope s_quiet_tables) (by decide +kernel)) (tg_name 4) (by decide) (fun _ _ _ _ _ => (pg_name (i := 4) sc_quiet_tables.nd rfl (by first | exact Or.inl rfl | exact Or.inr rfl))) (fun _ _ _ _ _ => dts_nil) (fun _ _ _ _ _ => (d_isnt (d_call (ok_still_from T) (hr.mono (by decide)) rfl T.still_from.gl T.still_from.fn.kp T.still_from.bd (da_cons (dv 3) (da_cons (dv 4) da_nil)) (ar_cons (ar_cons ar_nil))) d_non)))) da_nil)))
  (ss_one (s_append 2 [3] (d_prop T.C_Rule T.Rule_table.pr (ok_Rule_table T) T.Rule_table.bd (hr.mono (by decide)) (dv 3))))
  ss_nil)))
  (ss_one (s_retOwn 2))))
/-! fate_of -/
theorem sc_fate_of : FnScope ["rule", "text", "path", "early"] ["rule", "text"] (defScope s_fate_of) := ⟨rfl, rfl, rfl, by decide +kernel, rfl, by decide +kernel, by decide +kernel⟩
theorem ok_fate_of (T : Txt K mg FA) : FnOk P w K mg base CX0 5 FA.a_fate_of FA.d_fate_of ["rule", "text"] (spD K 2 R_fate_of) :=
  fnD T.fate_of.fn sc_fate_of fun cdv A outer s H E hr =>
  (ss_cons (s_setN 2 [0, 1] sc_fate_of.nd rfl (by first | exact Or.inl rfl | exact Or.inr rfl) (dn_call (ok_path_of T) (hr.mono (by decide)) rfl T.path_of.gl T.path_of.fn.kp T.path_of.bd (da_cons (dv 0) (da_cons (dv 1) da_nil)) (ar_cons (ar_cons ar_nil))))
  (ss_cons (s_set 3 [0, 2] sc_fate_of.nd rfl (by first | exact Or.inl rfl | exact Or.inr rfl) (d_index (dv 2) (d_meth T.C_Rule T.Rule_ring_after.me (ok_Rule_ring_after T) T.Rule_ring_after.bd (hr.mono (by decide)) (dv 0) (da_cons (d_ixF hr.units (dv 2) (d_neg d_int)) da_nil) (ar_cons ar_nil))))
  (ss_one (s_ret [2, 3] (d_tup (da_cons (dv 3) (da_cons (d_sub (d_lenG rfl T.b_len (da_cons (dv 2) da_nil)) (dv 3)) da_nil)))))))
/-! after -/
theorem sc_after : FnScope ["rule", "text", "many", "turn"] ["rule", "text", "many"] (defScope s_after) := ⟨rfl, rfl, rfl, by decide +kernel, rfl, by decide +kernel, by decide +kernel⟩
theorem ok_after (T : Txt K mg FA) : FnOk P w K mg base CX0 4 FA.a_after FA.d_after ["rule", "text", "many"] (spD K 3 R_after) :=
  fnD T.after.fn sc_after fun cdv A outer s H E hr =>
  (ss_cons (s_forR [2] PassesOwn.never rfl (dr_range1 rfl T.b_range (da_cons (dv 2) da_nil)) (pg_name (i := 3) sc_after.nd rfl (by first | exact Or.inl rfl | exact Or.inr rfl)) (tg_name 3)
  (ss_one (s_set 1 [0, 1] sc_after.nd rfl (by first | exact Or.inl rfl | exact Or.inr rfl) (d_meth T.C_Rule T.Rule_ring_after.me (ok_Rule_ring_after T) T.Rule_ring_after.bd (hr.mono (by decide)) (dv 0) (da_cons (dv 1) da_nil) (ar_cons ar_nil)))))
  (ss_one (s_ret [1] (dv 1))))
/-! _law_stays_alive -/
def F__law_stays_alive : Env2 → M Out :=
  (seqM (forA [0, 1] (iAny (eN (nCall R_all_stands (aC (e1 (propD 0 R_Rule_signs) (rdEnv 0)) (aC (rdEnv 1) aN))))) (bName 2)
  (seqM (unpM (bTup 2 (bCons (bName 3) (bCons (bName 4) bNil))) [0, 2] (eCall R_fate_of (aC (rdEnv 0) (aC (rdEnv 2) aN))))
  (ifM [0, 2, 3] (tNotM (tVal (eMeth 0 R_Rule_is_still (rdEnv 0) (aC (eCall R_after (aC (rdEnv 0) (aC (rdEnv 2) (aC (rdEnv 3) aN)))) aN))))
  (retM [] (cst (.bl true)))
  sNil)))
  (retM [] (cst (.bl false))))
def R__law_stays_alive : List D → M D := runD 5 F__law_stays_alive
theorem sc__law_stays_alive : FnScope ["_law_rule", "_law_size", "_law_text", "_law_early", "_law_period"] ["_law_rule", "_law_size"] (defScope s__law_stays_alive) := ⟨rfl, rfl, rfl, by decide +kernel, rfl, by decide +kernel, by decide +kernel⟩
theorem ok__law_stays_alive (T : Txt K mg FA) : FnOk P w K mg base CX0 6 FA.a__law_stays_alive FA.d__law_stays_alive ["_law_rule", "_law_size"] (spD K 2 R__law_stays_alive) :=
  fnD T._law_stays_alive.fn sc__law_stays_alive fun cdv A outer s H E hr =>
  (ss_cons (s_for [0, 1] PassesOwn.never rfl (di_any (d_n (dn_call (ok_all_stands T) (hr.mono (by decide)) rfl T.all_stands.gl T.all_stands.fn.kp T.all_stands.bd (da_cons (d_prop T.C_Rule T.Rule_signs.pr (ok_Rule_signs T) T.Rule_signs.bd (hr.mono (by decide)) (dv 0)) (da_cons (dv 1) da_nil)) (ar_cons (ar_cons ar_nil))))) (pg_name (i := 2) sc__law_stays_alive.nd rfl (by first | exact Or.inl rfl | exact Or.inr rfl)) (tg_name 2)
  (ss_cons (s_unp (bs := (bTup 2 (bCons (bName 3) (bCons (bName 4) bNil)))) [0, 2] (d_call (ok_fate_of T) (hr.mono (by decide)) rfl T.fate_of.gl T.fate_of.fn.kp T.fate_of.bd (da_cons (dv 0) (da_cons (dv 2) da_nil)) (ar_cons (ar_cons ar_nil))) (pg_tup (by rfl) (pgs_cons (pg_name (i := 3) sc__law_stays_alive.nd rfl (by first | exact Or.inl rfl | exact Or.inr rfl)) (pgs_cons (pg_name (i := 4) sc__law_stays_alive.nd rfl (by first | exact Or.inl rfl | exact Or.inr rfl)) pgs_nil))) (tg_tup 2 (tgs_cons (tg_name 3) (tgs_cons (tg_name 4) tgs_nil))))
  (ss_one (s_if [0, 2, 3] (t_not (t_val (d_meth T.C_Rule T.Rule_is_still.me (ok_Rule_is_still T) T.Rule_is_still.bd (hr.mono (by decide)) (dv 0) (da_cons (d_call (ok_after T) (hr.mono (by decide)) rfl T.after.gl T.after.fn.kp T.after.bd (da_cons (dv 0) (da_cons (dv 2) (da_cons (dv 3) da_nil))) (ar_cons (ar_cons (ar_cons ar_nil)))) da_nil) (ar_cons ar_nil))))
  (ss_one (s_ret [] d_bl))
  ss_nil))))
  (ss_one (s_ret [] d_bl)))
/-! Rule_mirrored -/
theorem sc_Rule_mirrored : FnScope ["self", "table"] ["self"] (defScope s_Rule_mirrored) := ⟨rfl, rfl, rfl, by decide +kernel, rfl, by decide +kernel, by decide +kernel⟩
theorem ok_Rule_mirrored (T : Txt K mg FA) : FnOk P w K mg base CX0 5 FA.a_Rule_mirrored FA.d_Rule_mirrored ["self"] (spD K 1 R_Rule_mirrored) :=
  fnD T.Rule_mirrored.fn sc_Rule_mirrored fun cdv A outer s H E hr =>
  (ss_cons (s_set 1 [0] sc_Rule_mirrored.nd rfl (by first | exact Or.inl rfl | exact Or.inr rfl) (d_slot T.C_Rule T.S_Rule_its_table (dv 0)))
  (ss_one (s_ret [0, 1] (d_make T.C_Rule T.Rule___init__.im (ok_Rule___init__ T) T.Rule___init__.bd (hr.mono (by decide)) rfl T.C_Rule.gl (da_cons (d_add (d_add (d_add (d_ixF hr.units (dv 1) d_int) (d_ixF hr.units (dv 1) d_int)) (d_ixF hr.units (dv 1) d_int)) (d_ixF hr.units (dv 1) d_int)) (da_cons (d_slot T.C_Rule T.S_Rule_its_rests (dv 0)) da_nil)) (ar_cons (ar_cons ar_nil))))))
/-! _law_right -/
def F__law_right_4 : Env2 → M Out :=
  (seqM (setNM 2 [0, 1] (nCall R_quiet_tables (aC (rdEnv 0) (aC (rdEnv 1) aN))))
  (seqM (ifM [0, 2, 8] (tOrM (t2 (inF true) (cst (.str [48, 48, 48, 48])) (rdEnv 2)) (t2 (eqD true) (rdEnv 2) (eN (nCall sortedF (aC (eN (nLc [8] (iAny (rdEnv 2)) (bName 8) cT (e1 (propD 0 R_Rule_table) (e1 (propD 0 R_Rule_mirrored) (eMake 0 ruleI (aC (rdEnv 8) (aC (rdEnv 0) aN))))))) aN)))))
  (retM [] (cst (.bl false)))
  sNil)
  (seqM (forA [0] (iAny (eN (nCall R_Rule_all_of (aC (rdEnv 0) aN)))) (bName 3)
  (seqM (ifM [1, 2, 3] (t2 (eqD false) (e2 (inF false) (e1 (propD 0 R_Rule_table) (rdEnv 3)) (rdEnv 2)) (eCall R__law_stays_alive (aC (rdEnv 3) (aC (rdEnv 1) aN))))
  (retM [] (cst (.bl false)))
  sNil)
  (ifM [2, 3] (t2 (inF false) (e1 (propD 0 R_Rule_table) (rdEnv 3)) (rdEnv 2))
  (seqM (setNM 5 [1, 3, 7] (nLc [7] (iAny (eN (nCall R_all_stands (aC (e1 (propD 0 R_Rule_signs) (rdEnv 3)) (aC (rdEnv 1) aN))))) (bName 7) cT (eCall R_still_from (aC (rdEnv 3) (aC (rdEnv 7) aN)))))
  (ifM [0, 5] (tOrM (t2 (inF false) (cst .non) (rdEnv 5)) (t2 ltD (eCall maxF (aC (rdEnv 5) aN)) (e2 addD (rdEnv 0) (cst (.int 1)))))
  (retM [] (cst (.bl false)))
  sNil))
  sNil)))
  (seqM (forRM [1] (iRg2 (aC (cst (.int 1)) (aC (rdEnv 1) aN))) (bName 4)
  (ifM [1, 4] (t2 (eqD false) (e2 modD (eCall intF (aC (rdEnv 1) aN)) (rdEnv 4)) (cst (.int 0)))
  (seqM (setNM 6 [0, 4] (nCall R_quiet_tables (aC (rdEnv 0) (aC (rdEnv 4) aN))))
  (ifM [2, 6, 8] (t2 (eqD true) (eN (nLc [8] (iAny (rdEnv 2)) (bName 8) (t2 (inF true) (rdEnv 8) (rdEnv 6)) (rdEnv 8))) (eN (nLst aN)))
  (retM [] (cst (.bl false)))
  sNil))
  sNil))
  (retM [] (cst (.bl true)))))))
def R__law_right_4 : List D → M D := runD 9 F__law_right_4
theorem sc__law_right : FnScope ["_law_rests", "_law_size", "_law_some", "_law_rule", "_law_part", "_law_late", "_law_less", "_law_text", "_law_table"] ["_law_rests", "_law_size"] (defScope s__law_right) := ⟨rfl, rfl, rfl, by decide +kernel, rfl, by decide +kernel, by decide +kernel⟩
theorem ok__law_right (T : Txt K mg FA) : FnOk P w K mg base CX0 7 FA.a__law_right FA.d__law_right ["_law_rests", "_law_size"] (spD K 2 R__law_right_4) :=
  fnD T._law_right.fn sc__law_right fun cdv A outer s H E hr =>
  (ss_cons (s_setN 2 [0, 1] sc__law_right.nd rfl (by first | exact Or.inl rfl | exact Or.inr rfl) (dn_call (ok_quiet_tables T) (hr.mono (by decide)) rfl T.quiet_tables.gl T.quiet_tables.fn.kp T.quiet_tables.bd (da_cons (dv 0) (da_cons (dv 1) da_nil)) (ar_cons (ar_cons ar_nil))))
  (ss_cons (s_if [0, 2, 8] (t_w (w_or (t_notInF hr.units (d_str [48, 48, 48, 48]) (dv 2)) (w_or1 (t_ne hr.units (dv 2) (d_n (dn_sorted rfl T.b_sorted (da_cons (d_n (dn_lc (own := [("_law_table", 8)]) rfl sc__law_right.nd (di_any (dv 2)) (blkOk_by (N := ["_law_rests", "_law_size", "_law_some", "_law_rule", "_law_part", "_law_late", "_law_less", "_law_text", "_law_table"]) (sc := defScope s__law_right) (by decide +kernel)) (tg_name 8) (by decide) (fun _ _ _ _ _ => (pg_name (i := 8) sc__law_right.nd rfl (by first | exact Or.inl rfl | exact Or.inr rfl))) (fun _ _ _ _ _ => dts_nil) (fun _ _ _ _ _ => (d_prop T.C_Rule T.Rule_table.pr (ok_Rule_table T) T.Rule_table.bd (hr.mono (by decide)) (d_meth0 T.C_Rule T.Rule_mirrored.me (ok_Rule_mirrored T) T.Rule_mirrored.bd (hr.mono (by decide)) (d_make T.C_Rule T.Rule___init__.im (ok_Rule___init__ T) T.Rule___init__.bd (hr.mono (by decide)) rfl T.C_Rule.gl (da_cons (dv 8) (da_cons (dv 0) da_nil)) (ar_cons (ar_cons ar_nil)))))))) da_nil)))))))
  (ss_one (s_ret [] d_bl))
  ss_nil)
  (ss_cons (s_for [0] PassesOwn.never rfl (di_any (d_n (dn_smeth T.C_Rule T.Rule_all_of.sm (ok_Rule_all_of T) T.Rule_all_of.bd (hr.mono (by decide)) rfl rfl (da_cons (dv 0) da_nil) (ar_cons ar_nil)))) (pg_name (i := 3) sc__law_right.nd rfl (by first | exact Or.inl rfl | exact Or.inr rfl)) (tg_name 3)
  (ss_cons (s_if [1, 2, 3] (t_eq hr.units (d_inF hr.units (d_prop T.C_Rule T.Rule_table.pr (ok_Rule_table T) T.Rule_table.bd (hr.mono (by decide)) (dv 3)) (dv 2)) (d_call (ok__law_stays_alive T) (hr.mono (by decide)) rfl T._law_stays_alive.gl T._law_stays_alive.fn.kp T._law_stays_alive.bd (da_cons (dv 3) (da_cons (dv 1) da_nil)) (ar_cons (ar_cons ar_nil))))
  (ss_one (s_ret [] d_bl))
  ss_nil)
  (ss_one (s_if [2, 3] (t_inF hr.units (d_prop T.C_Rule T.Rule_table.pr (ok_Rule_table T) T.Rule_table.bd (hr.mono (by decide)) (dv 3)) (dv 2))
  (ss_cons (s_setLc (own := [("_law_text", 7)]) 5 [1, 3, 7] rfl sc__law_right.nd rfl rfl (sw_true rfl rfl rfl (by decide +kernel)) (di_any (d_n (dn_call (ok_all_stands T) (hr.mono (by decide)) rfl T.all_stands.gl T.all_stands.fn.kp T.all_stands.bd (da_cons (d_prop T.C_Rule T.Rule_signs.pr (ok_Rule_signs T) T.Rule_signs.bd (hr.mono (by decide)) (dv 3)) (da_cons (dv 1) da_nil)) (ar_cons (ar_cons ar_nil))))) (blkOk_by (N := ["_law_rests", "_law_size", "_law_some", "_law_rule", "_law_part", "_law_late", "_law_less", "_law_text", "_law_table"]) (sc := defScope s__law_right) (by decide +kernel)) (tg_name 7) (by decide) (fun _ _ _ _ _ => (pg_name (i := 7) sc__law_right.nd rfl (by first | exact Or.inl rfl | exact Or.inr rfl))) (fun _ _ _ _ _ => dts_nil) (fun _ _ _ _ _ => (d_call (ok_still_from T) (hr.mono (by decide)) rfl T.still_from.gl T.still_from.fn.kp T.still_from.bd (da_cons (dv 3) (da_cons (dv 7) da_nil)) (ar_cons (ar_cons ar_nil)))))
  (ss_one (s_if [0, 5] (t_w (w_or (t_inF hr.units d_non (dv 5)) (w_or1 (t_lt (d_max rfl rfl T.b_max (da_cons (dv 5) da_nil)) (d_add (dv 0) d_int)))))
  (ss_one (s_ret [] d_bl))
  ss_nil)))
  ss_nil))))
  (ss_cons (s_forR [1] PassesOwn.never rfl (dr_range2 rfl T.b_range (da_cons d_int (da_cons (dv 1) da_nil))) (pg_name (i := 4) sc__law_right.nd rfl (by first | exact Or.inl rfl | exact Or.inr rfl)) (tg_name 4)
  (ss_one (s_if [1, 4] (t_eq hr.units (d_mod (d_cint rfl T.b_int (da_cons (dv 1) da_nil)) (dv 4)) d_int)
  (ss_cons (s_setN 6 [0, 4] sc__law_right.nd rfl (by first | exact Or.inl rfl | exact Or.inr rfl) (dn_call (ok_quiet_tables T) (hr.mono (by decide)) rfl T.quiet_tables.gl T.quiet_tables.fn.kp T.quiet_tables.bd (da_cons (dv 0) (da_cons (dv 4) da_nil)) (ar_cons (ar_cons ar_nil))))
  (ss_one (s_if [2, 6, 8] (t_ne hr.units (d_n (dn_lc (own := [("_law_table", 8)]) rfl sc__law_right.nd (di_any (dv 2)) (blkOk_by (N := ["_law_rests", "_law_size", "_law_some", "_law_rule", "_law_part", "_law_late", "_law_less", "_law_text", "_law_table"]) (sc := defScope s__law_right) (by decide +kernel)) (tg_name 8) (by decide) (fun _ _ _ _ _ => (pg_name (i := 8) sc__law_right.nd rfl (by first | exact Or.inl rfl | exact Or.inr rfl))) (fun _ _ _ _ _ => (dts_one (t_notInF hr.units (dv 8) (dv 6)))) (fun _ _ _ _ _ => (dv 8)))) (d_n (dn_lst da_nil)))
  (ss_one (s_ret [] d_bl))
  ss_nil)))
  ss_nil)))
  (ss_one (s_ret [] d_bl))))))
/-! law -/
def F_law : Env2 → M Out :=
  (seqM (setM 2 [1] (eCall R__law_take (aC (rdEnv 1) (aC (cst (.int 3)) aN))))
  (retM [1, 2] (eCall R__law_right_4 (aC (rdEnv 2) (aC (e2 addD (cst (.int 1)) (eCall R__law_take (aC (rdEnv 1) (aC (e2 ixF (eN (nLst (aC (cst (.int 4)) (aC (cst (.int 4)) (aC (cst (.int 3)) aN))))) (rdEnv 2)) aN)))) aN)))))
theorem sc_law : FnScope ["_law_script", "_law_bag_here", "_law_rests"] ["_law_script"] (defScope s_law) := ⟨rfl, rfl, rfl, by decide +kernel, rfl, by decide +kernel, by decide +kernel⟩
theorem ok_law (T : Txt K mg FA) (hmath : ∀ (p : Addr), Tot p (F_law (env0 1 p)) fun o => o = .rt (.bl true)) : FnG P w K mg base 8 FA.a_law FA.d_law ["_law_script"] (spLaw K) :=
  fn_g T.law.fn sc_law (fun vs H Q E h => by obtain ⟨a, ns, rfl, _⟩ := h; rfl) fun cdv A outer s H vs Q hr hgd h => ⟨_, pss_cons (ps_set (i := 1) sc_law.nd rfl (by first | exact Or.inl rfl | exact Or.inr rfl) (pe_call (ok__law_bag T) (hr.mono (by decide)) rfl T._law_bag.gl T._law_bag.fn.kp T._law_bag.bd .nil pass0 (da_cons (dv 0) da_nil)))
  (ss_cons (s_set 2 [1] sc_law.nd rfl (by first | exact Or.inl rfl | exact Or.inr rfl) (d_call (ok__law_take T) (hr.mono (by decide)) rfl T._law_take.gl T._law_take.fn.kp T._law_take.bd (da_cons (dv 1) (da_cons d_int da_nil)) (ar_cons (ar_cons ar_nil))))
  (ss_one (s_ret [1, 2] (d_call (ok__law_right T) (hr.mono (by decide)) rfl T._law_right.gl T._law_right.fn.kp T._law_right.bd (da_cons (dv 2) (da_cons (d_add d_int (d_call (ok__law_take T) (hr.mono (by decide)) rfl T._law_take.gl T._law_take.fn.kp T._law_take.bd (da_cons (dv 1) (da_cons (d_ixF hr.units (d_n (dn_lst (da_cons d_int (da_cons d_int (da_cons d_int da_nil))))) (dv 2)) da_nil)) (ar_cons (ar_cons ar_nil)))) da_nil)) (ar_cons (ar_cons ar_nil)))))), law_run rfl bag_made hmath h⟩
end
end LW
set_option Elab.async false
set_option maxRecDepth 100000
set_option autoImplicit false
set_option linter.unusedVariables false
set_option maxHeartbeats 4000000
namespace LW
open PySem L2 PySem.Spec PyProof.Rows DL
local macro_rules | `(tactic| walk_at "dis") => `(tactic| first | assumption | omega | (simp only [List.length_map, List.length_range, List.length_append, List.length_cons, List.length_nil, List.length_reverse, List.length_take, List.length_drop, List.length_replicate, List.length_singleton]; omega) | (simp; done))
local macro_rules | `(tactic| walk_at "ev") => `(tactic| try simp -implicitDefEqProofs -dsimp (disch := walk_at "dis") only [all_of_is, after_is, rule_signs, rule_table, make_rule, mirrored_is, ↓q_seq, ↓q_seqK_nx, ↓q_seqK_rt, ↓q_seqK_rn, ↓q_seqK_bk, ↓q_seqK_ct, ↓q_runD, ↓q_runN, q_runK_rt, q_runK_rn, q_runK_nx, q_runKN_rn, ↓q_set, ↓q_setN, ↓q_ret, ↓q_retN, ↓q_drop, ↓q_if, ↓q_unp, q_unpK, ↓q_par, q_parK, ↓q_app, q_appK, ↓q_aug, q_augK, q_addF_int, q_addF_str, q_guard, ↓q_for, ↓q_forR, q_loopK_nx, q_loopK_ct, q_loopK_bk, q_loopK_rt, q_loopK_rn, ↓q_sNil, ↓q_e2, ↓q_t2, ↓q_e1, ↓q_cst, ↓q_aN, ↓q_aC, ↓q_call, ↓q_callN, ↓q_eN, ↓q_nLst, q_lstK, ↓q_eTup, q_tupK, ↓q_tVal, ↓q_tNot, ↓q_tAnd, ↓q_tOr, ↓q_eAnd, ↓q_eOr, ↓q_eNot, ↓q_eIf, ↓q_iAny, ↓q_iRg1, ↓q_iRg2, ↓q_iEnum, ↓q_nLc, ↓q_cT, ↓q_oN, ↓q_oS, ↓q_eSl, ↓q_eChain, ↓q_tBl, ↓q_eMake, ↓q_eMeth, ↓q_nMeth, ↓q_n1M, ↓q_iSeq, q_selK, q_self, ↓q_iTwo, ↓q_iTwoS, q_two2s, q_two2, ↓q_ext, q_extK, ↓q_nLc2, q_count, q_inE, q_notInE, q_is_non, q_is_str, q_is_int, q_is_tup, q_is_lst, q_isnt_non, q_isnt_str, q_isnt_int, q_isnt_tup, q_isnt_lst, q_list_l, q_list_t, q_tuple_l, q_tuple_t, q_max2, q_min2, q_sum, q_ixF_s, q_ixF_l, q_ixF_t, q_ixF_b, q_inF_s, q_inF_l, q_inF_t, q_lenG_s, q_lenG_l, q_lenG_t, q_lenG_d, q_lenG_dt, ↓q_setD, ↓q_dput, q_dputK, q_keyI, q_keyS, q_seeT, q_toDv, q_toDl, q_toDk, q_toDt, q_toDs0, q_toDs1, q_toDsm, q_fls0, q_fls1, q_flv, q_fll, q_flk, q_flt, q_flsm, q_sloV, q_sloK, q_sloT, q_sloL, q_sloLl, ↓q_oV, ↓q_oL, ↓q_oC, ↓q_oaN, ↓q_oaC, ↓q_oLst, q_oLstK, ↓q_setO, ↓q_parO, q_parOK, ↓q_parO3, q_parO3K, ↓q_appAt, q_appAtK, q_appAtK2, q_flatS, q_flatI, q_flatS2, q_mapv0, q_sloL0, bnd_ret, bnd_assoc, bnd_assoc', bnd_r, cnd_t, cnd_f, fail_bnd, bind_bnd, str01, List.cons.injEq, and_true, decide_true, decide_false, cut_toN, cut_fromN, cut_from1N, cut_to1N, cut_to1, cut_to2, cut_to3, cut_from1, cut_toM1, cut_fromM1, DL.startD, List.map_cons, List.map_nil, List.length_cons, List.length_nil, Nat.reduceAdd, Nat.reduceSub, List.replicate, List.cons_append, List.nil_append, view_eq, viewAt_cons, viewAt_nil, List.contains_cons, List.contains_nil, Nat.reduceBEq, Bool.or_true, Bool.or_false, Bool.true_or, Bool.false_or, if_true, Bool.false_eq_true, if_false, Option.map_some, Option.map_none, see_val, see_own, rd_0, rd_1, rd_2, rd_3, rd_4, rd_5, rd_6, rd_7, rd_8, rd_9, rd_10, rd_11, rd_12, rd_13, rd_14, rd_15, rd_16, rd_17, rd_18, rd_19, rd_20, rd_21, rd_22, rd_23, rd_24, rd_25, rd_26, rd_27, rd_28, rd_29, rd_30, rd_31, rd_32, rd_33, rd_34, rd_35, rd_36, rd_37, rd_38, rd_39, rd_40, rd_41, rd_42, rd_43, rd_44, rd_45, Int.reduceToNat, flat_int, flat_str, flat_bl, flat_non, flat_bag, flat_lst, flat_tup, flat_obj, List.all_cons, List.all_nil, Bool.and_true, Bool.true_and, Bool.and_false, Bool.false_and, keepIf_t, keepIf_f, frz_eq, frzAt_cons, frzAt_nil, List.set_cons_succ, List.set_cons_zero, subD_int, addD_int, negD_int, asI_int, asB_bl, truD_bl, lenF_lst, lenF_tup, intF_int, intF_bl, absF_int, ltD_int, leD_int, gtD_int, geD_int, eqD_int, eqD_str, neD_int, neD_str, inD_str, notInD_str, slD_lst, slD_scr, revD_lst, itemsD_lst, itemsD_tup, itemsD_str, Bool.not_true, Bool.not_false, ixD_l, ixD_t, ofSome, atI_0, atI_1, atI_2, atI_3, atI_4, atI_app, slotD_obj, propD_obj, propN_obj, isC_obj, get0, get1, get2, get3, getS, bName_eq, bTup_eq, bCons_eq, bNil_eq, setAll2_cons, setAll2_nil, setAllD_cons, setAllD_nil, wipeD_cons, wipeD_nil, isi_str_str, isi_int_int, isi_bool_int, List.getElem?_cons_zero, List.getElem?_cons_succ, ↓q_nIf, q_minG2, q_minGs, q_eqC, q_isiO, q_isiO_i, q_isiO_s, q_isiO_n, q_isiO_l, q_isiO_t, q_cndN, q_szL, q_sloL1, q_sloL2, q_sloL3, q_c0, q_c1, q_c2, q_c3, q_c4, q_c5, q_c6, q_c7, q_c8, q_c9, q_c10, q_c11, q_c12, q_c13, q_c14, q_c15, q_c16, q_eqBl, q_neBl, q_bin4, q_sumL, q_disp, q_prs0, q_prs1, q_dc, q_tput, q_tputK, q_inT, q_inTK, q_getT, q_getTK, q_keysI1, q_keys2s, q_keys2i, q_keys2ii, q_neC, q_augSub, q_shr, eq_self, cnd_dt, cnd_df, Int.toNat_natCast, lenF_str, modD_int, divD_int, addD_str, addD_lst, slD_str, revD_str, ixD_str, ixD_str1, ixD_strmod, rng1_int, rng2_int, mulD_intl, mulD_intr, intF_dig])
local macro_rules | `(tactic| walk_at "evl") => `(tactic| try simp -implicitDefEqProofs -dsimp (disch := walk_at "dis") only [all_of_is, after_is, rule_signs, rule_table, make_rule, mirrored_is, ↓q_seq, ↓q_seqK_nx, ↓q_seqK_rt, ↓q_seqK_rn, ↓q_seqK_bk, ↓q_seqK_ct, ↓q_runD, ↓q_runN, q_runK_rt, q_runK_rn, q_runK_nx, q_runKN_rn, ↓q_set, ↓q_setN, ↓q_ret, ↓q_retN, ↓q_drop, ↓q_if, ↓q_unp, q_unpK, ↓q_par, q_parK, ↓q_app, q_appK, ↓q_aug, q_augK, q_addF_int, q_addF_str, q_guard, ↓q_for, ↓q_forR, q_loopK_nx, q_loopK_ct, q_loopK_bk, q_loopK_rt, q_loopK_rn, ↓q_sNil, ↓q_e2, ↓q_t2, ↓q_e1, ↓q_cst, ↓q_aN, ↓q_aC, ↓q_call, ↓q_callN, ↓q_eN, ↓q_nLst, q_lstK, ↓q_eTup, q_tupK, ↓q_tVal, ↓q_tNot, ↓q_tAnd, ↓q_tOr, ↓q_eAnd, ↓q_eOr, ↓q_eNot, ↓q_eIf, ↓q_iAny, ↓q_iRg1, ↓q_iRg2, ↓q_iEnum, ↓q_nLc, ↓q_cT, ↓q_oN, ↓q_oS, ↓q_eSl, ↓q_eChain, ↓q_tBl, ↓q_eMake, ↓q_eMeth, ↓q_nMeth, ↓q_n1M, ↓q_iSeq, q_selK, q_self, ↓q_iTwo, ↓q_iTwoS, q_two2s, q_two2, ↓q_ext, q_extK, ↓q_nLc2, q_count, q_inE, q_notInE, q_is_non, q_is_str, q_is_int, q_is_tup, q_is_lst, q_isnt_non, q_isnt_str, q_isnt_int, q_isnt_tup, q_isnt_lst, q_list_l, q_list_t, q_tuple_l, q_tuple_t, q_max2, q_min2, q_sum, q_ixF_s, q_ixF_l, q_ixF_t, q_ixF_b, q_inF_s, q_inF_l, q_inF_t, q_lenG_s, q_lenG_l, q_lenG_t, q_lenG_d, q_lenG_dt, ↓q_setD, ↓q_dput, q_dputK, q_keyI, q_keyS, q_seeT, q_toDv, q_toDl, q_toDk, q_toDt, q_toDs0, q_toDs1, q_toDsm, q_fls0, q_fls1, q_flv, q_fll, q_flk, q_flt, q_flsm, q_sloV, q_sloK, q_sloT, q_sloL, q_sloLl, ↓q_oV, ↓q_oL, ↓q_oC, ↓q_oaN, ↓q_oaC, ↓q_oLst, q_oLstK, ↓q_setO, ↓q_parO, q_parOK, ↓q_parO3, q_parO3K, ↓q_appAt, q_appAtK, q_appAtK2, q_flatS, q_flatI, q_flatS2, q_mapv0, q_sloL0, bnd_ret, bnd_assoc, bnd_assoc', bnd_r, cnd_t, cnd_f, fail_bnd, bind_bnd, str01, List.cons.injEq, and_true, decide_true, decide_false, cut_toN, cut_fromN, cut_from1N, cut_to1N, cut_to1, cut_to2, cut_to3, cut_from1, cut_toM1, cut_fromM1, DL.startD, List.map_cons, List.map_nil, List.length_cons, List.length_nil, Nat.reduceAdd, Nat.reduceSub, List.replicate, List.cons_append, List.nil_append, view_eq, viewAt_cons, viewAt_nil, List.contains_cons, List.contains_nil, Nat.reduceBEq, Bool.or_true, Bool.or_false, Bool.true_or, Bool.false_or, if_true, Bool.false_eq_true, if_false, Option.map_some, Option.map_none, see_val, see_own, rd_0, rd_1, rd_2, rd_3, rd_4, rd_5, rd_6, rd_7, rd_8, rd_9, rd_10, rd_11, rd_12, rd_13, rd_14, rd_15, rd_16, rd_17, rd_18, rd_19, rd_20, rd_21, rd_22, rd_23, rd_24, rd_25, rd_26, rd_27, rd_28, rd_29, rd_30, rd_31, rd_32, rd_33, rd_34, rd_35, rd_36, rd_37, rd_38, rd_39, rd_40, rd_41, rd_42, rd_43, rd_44, rd_45, Int.reduceToNat, flat_int, flat_str, flat_bl, flat_non, flat_bag, flat_lst, flat_tup, flat_obj, List.all_cons, List.all_nil, Bool.and_true, Bool.true_and, Bool.and_false, Bool.false_and, keepIf_t, keepIf_f, frz_eq, frzAt_cons, frzAt_nil, List.set_cons_succ, List.set_cons_zero, subD_int, addD_int, negD_int, asI_int, asB_bl, truD_bl, lenF_lst, lenF_tup, intF_int, intF_bl, absF_int, ltD_int, leD_int, gtD_int, geD_int, eqD_int, eqD_str, neD_int, neD_str, inD_str, notInD_str, slD_lst, slD_scr, revD_lst, itemsD_lst, itemsD_tup, itemsD_str, Bool.not_true, Bool.not_false, ixD_l, ixD_t, ofSome, atI_0, atI_1, atI_2, atI_3, atI_4, atI_app, slotD_obj, propD_obj, propN_obj, isC_obj, get0, get1, get2, get3, getS, bName_eq, bTup_eq, bCons_eq, bNil_eq, setAll2_cons, setAll2_nil, setAllD_cons, setAllD_nil, wipeD_cons, wipeD_nil, isi_str_str, isi_int_int, isi_bool_int, List.getElem?_cons_zero, List.getElem?_cons_succ, ↓q_nIf, q_minG2, q_minGs, q_eqC, q_isiO, q_isiO_i, q_isiO_s, q_isiO_n, q_isiO_l, q_isiO_t, q_cndN, q_szL, q_sloL1, q_sloL2, q_sloL3, q_c0, q_c1, q_c2, q_c3, q_c4, q_c5, q_c6, q_c7, q_c8, q_c9, q_c10, q_c11, q_c12, q_c13, q_c14, q_c15, q_c16, q_eqBl, q_neBl, q_bin4, q_sumL, q_disp, q_prs0, q_prs1, q_dc, q_tput, q_tputK, q_inT, q_inTK, q_getT, q_getTK, q_keysI1, q_keys2s, q_keys2i, q_keys2ii, q_neC, q_augSub, q_shr, eq_self, cnd_dt, cnd_df, Int.toNat_natCast, lenF_str, modD_int, divD_int, addD_str, addD_lst, slD_str, revD_str, ixD_str, ixD_str1, ixD_strmod, rng1_int, rng2_int, mulD_intl, mulD_intr, intF_dig, q_loop0, q_loopN, q_comp0, q_compT, q_compC])
local macro_rules | `(tactic| walk_at "evc") => `(tactic| try simp -implicitDefEqProofs -dsimp (disch := walk_at "dis") only [all_of_is, after_is, rule_signs, rule_table, make_rule, mirrored_is, ↓q_seq, ↓q_seqK_nx, ↓q_seqK_rt, ↓q_seqK_rn, ↓q_seqK_bk, ↓q_seqK_ct, ↓q_runD, ↓q_runN, q_runK_rt, q_runK_rn, q_runK_nx, q_runKN_rn, ↓q_set, ↓q_setN, ↓q_ret, ↓q_retN, ↓q_drop, ↓q_if, ↓q_unp, q_unpK, ↓q_par, q_parK, ↓q_app, q_appK, ↓q_aug, q_augK, q_addF_int, q_addF_str, q_guard, ↓q_for, ↓q_forR, q_loopK_nx, q_loopK_ct, q_loopK_bk, q_loopK_rt, q_loopK_rn, ↓q_sNil, ↓q_e2, ↓q_t2, ↓q_e1, ↓q_cst, ↓q_aN, ↓q_aC, ↓q_call, ↓q_callN, ↓q_eN, ↓q_nLst, q_lstK, ↓q_eTup, q_tupK, ↓q_tVal, ↓q_tNot, ↓q_tAnd, ↓q_tOr, ↓q_eAnd, ↓q_eOr, ↓q_eNot, ↓q_eIf, ↓q_iAny, ↓q_iRg1, ↓q_iRg2, ↓q_iEnum, ↓q_nLc, ↓q_cT, ↓q_oN, ↓q_oS, ↓q_eSl, ↓q_eChain, ↓q_tBl, ↓q_eMake, ↓q_eMeth, ↓q_nMeth, ↓q_n1M, ↓q_iSeq, q_selK, q_self, ↓q_iTwo, ↓q_iTwoS, q_two2s, q_two2, ↓q_ext, q_extK, ↓q_nLc2, q_count, q_inE, q_notInE, q_is_non, q_is_str, q_is_int, q_is_tup, q_is_lst, q_isnt_non, q_isnt_str, q_isnt_int, q_isnt_tup, q_isnt_lst, q_list_l, q_list_t, q_tuple_l, q_tuple_t, q_max2, q_min2, q_sum, q_ixF_s, q_ixF_l, q_ixF_t, q_ixF_b, q_inF_s, q_inF_l, q_inF_t, q_lenG_s, q_lenG_l, q_lenG_t, q_lenG_d, q_lenG_dt, ↓q_setD, ↓q_dput, q_dputK, q_keyI, q_keyS, q_seeT, q_toDv, q_toDl, q_toDk, q_toDt, q_toDs0, q_toDs1, q_toDsm, q_fls0, q_fls1, q_flv, q_fll, q_flk, q_flt, q_flsm, q_sloV, q_sloK, q_sloT, q_sloL, q_sloLl, ↓q_oV, ↓q_oL, ↓q_oC, ↓q_oaN, ↓q_oaC, ↓q_oLst, q_oLstK, ↓q_setO, ↓q_parO, q_parOK, ↓q_parO3, q_parO3K, ↓q_appAt, q_appAtK, q_appAtK2, q_flatS, q_flatI, q_flatS2, q_mapv0, q_sloL0, bnd_ret, bnd_assoc, bnd_assoc', bnd_r, cnd_t, cnd_f, fail_bnd, bind_bnd, str01, List.cons.injEq, and_true, decide_true, decide_false, cut_toN, cut_fromN, cut_from1N, cut_to1N, cut_to1, cut_to2, cut_to3, cut_from1, cut_toM1, cut_fromM1, DL.startD, List.map_cons, List.map_nil, List.length_cons, List.length_nil, Nat.reduceAdd, Nat.reduceSub, List.replicate, List.cons_append, List.nil_append, view_eq, viewAt_cons, viewAt_nil, List.contains_cons, List.contains_nil, Nat.reduceBEq, Bool.or_true, Bool.or_false, Bool.true_or, Bool.false_or, if_true, Bool.false_eq_true, if_false, Option.map_some, Option.map_none, see_val, see_own, rd_0, rd_1, rd_2, rd_3, rd_4, rd_5, rd_6, rd_7, rd_8, rd_9, rd_10, rd_11, rd_12, rd_13, rd_14, rd_15, rd_16, rd_17, rd_18, rd_19, rd_20, rd_21, rd_22, rd_23, rd_24, rd_25, rd_26, rd_27, rd_28, rd_29, rd_30, rd_31, rd_32, rd_33, rd_34, rd_35, rd_36, rd_37, rd_38, rd_39, rd_40, rd_41, rd_42, rd_43, rd_44, rd_45, Int.reduceToNat, flat_int, flat_str, flat_bl, flat_non, flat_bag, flat_lst, flat_tup, flat_obj, List.all_cons, List.all_nil, Bool.and_true, Bool.true_and, Bool.and_false, Bool.false_and, keepIf_t, keepIf_f, frz_eq, frzAt_cons, frzAt_nil, List.set_cons_succ, List.set_cons_zero, subD_int, addD_int, negD_int, asI_int, asB_bl, truD_bl, lenF_lst, lenF_tup, intF_int, intF_bl, absF_int, ltD_int, leD_int, gtD_int, geD_int, eqD_int, eqD_str, neD_int, neD_str, inD_str, notInD_str, slD_lst, slD_scr, revD_lst, itemsD_lst, itemsD_tup, itemsD_str, Bool.not_true, Bool.not_false, ixD_l, ixD_t, ofSome, atI_0, atI_1, atI_2, atI_3, atI_4, atI_app, slotD_obj, propD_obj, propN_obj, isC_obj, get0, get1, get2, get3, getS, bName_eq, bTup_eq, bCons_eq, bNil_eq, setAll2_cons, setAll2_nil, setAllD_cons, setAllD_nil, wipeD_cons, wipeD_nil, isi_str_str, isi_int_int, isi_bool_int, List.getElem?_cons_zero, List.getElem?_cons_succ, ↓q_nIf, q_minG2, q_minGs, q_eqC, q_isiO, q_isiO_i, q_isiO_s, q_isiO_n, q_isiO_l, q_isiO_t, q_cndN, q_szL, q_sloL1, q_sloL2, q_sloL3, q_c0, q_c1, q_c2, q_c3, q_c4, q_c5, q_c6, q_c7, q_c8, q_c9, q_c10, q_c11, q_c12, q_c13, q_c14, q_c15, q_c16, q_eqBl, q_neBl, q_bin4, q_sumL, q_disp, q_prs0, q_prs1, q_dc, q_tput, q_tputK, q_inT, q_inTK, q_getT, q_getTK, q_keysI1, q_keys2s, q_keys2i, q_keys2ii, q_neC, q_augSub, q_shr, eq_self, cnd_dt, cnd_df, Int.toNat_natCast, lenF_str, modD_int, divD_int, addD_str, addD_lst, slD_str, revD_str, ixD_str, ixD_str1, ixD_strmod, rng1_int, rng2_int, mulD_intl, mulD_intr, intF_dig, q_comp0, q_compC])
local macro_rules | `(tactic| walk_at "evh") => `(tactic| try simp -implicitDefEqProofs -dsimp (disch := walk_at "dis") only [all_of_is, after_is, rule_signs, rule_table, make_rule, mirrored_is, ↓q_seq, ↓q_seqK_nx, ↓q_seqK_rt, ↓q_seqK_rn, ↓q_seqK_bk, ↓q_seqK_ct, ↓q_runD, ↓q_runN, q_runK_rt, q_runK_rn, q_runK_nx, q_runKN_rn, ↓q_set, ↓q_setN, ↓q_ret, ↓q_retN, ↓q_drop, ↓q_if, ↓q_unp, q_unpK, ↓q_par, q_parK, ↓q_app, q_appK, ↓q_aug, q_augK, q_addF_int, q_addF_str, q_guard, ↓q_for, ↓q_forR, q_loopK_nx, q_loopK_ct, q_loopK_bk, q_loopK_rt, q_loopK_rn, ↓q_sNil, ↓q_e2, ↓q_t2, ↓q_e1, ↓q_cst, ↓q_aN, ↓q_aC, ↓q_call, ↓q_callN, ↓q_eN, ↓q_nLst, q_lstK, ↓q_eTup, q_tupK, ↓q_tVal, ↓q_tNot, ↓q_tAnd, ↓q_tOr, ↓q_eAnd, ↓q_eOr, ↓q_eNot, ↓q_eIf, ↓q_iAny, ↓q_iRg1, ↓q_iRg2, ↓q_iEnum, ↓q_nLc, ↓q_cT, ↓q_oN, ↓q_oS, ↓q_eSl, ↓q_eChain, ↓q_tBl, ↓q_eMake, ↓q_eMeth, ↓q_nMeth, ↓q_n1M, ↓q_iSeq, q_selK, q_self, ↓q_iTwo, ↓q_iTwoS, q_two2s, q_two2, ↓q_ext, q_extK, ↓q_nLc2, q_count, q_inE, q_notInE, q_is_non, q_is_str, q_is_int, q_is_tup, q_is_lst, q_isnt_non, q_isnt_str, q_isnt_int, q_isnt_tup, q_isnt_lst, q_list_l, q_list_t, q_tuple_l, q_tuple_t, q_max2, q_min2, q_sum, q_ixF_s, q_ixF_l, q_ixF_t, q_ixF_b, q_inF_s, q_inF_l, q_inF_t, q_lenG_s, q_lenG_l, q_lenG_t, q_lenG_d, q_lenG_dt, ↓q_setD, ↓q_dput, q_dputK, q_keyI, q_keyS, q_seeT, q_toDv, q_toDl, q_toDk, q_toDt, q_toDs0, q_toDs1, q_toDsm, q_fls0, q_fls1, q_flv, q_fll, q_flk, q_flt, q_flsm, q_sloV, q_sloK, q_sloT, q_sloL, q_sloLl, ↓q_oV, ↓q_oL, ↓q_oC, ↓q_oaN, ↓q_oaC, ↓q_oLst, q_oLstK, ↓q_setO, ↓q_parO, q_parOK, ↓q_parO3, q_parO3K, ↓q_appAt, q_appAtK, q_appAtK2, q_flatS, q_flatI, q_flatS2, q_mapv0, q_sloL0, bnd_ret, bnd_assoc, bnd_assoc', bnd_r, cnd_t, cnd_f, fail_bnd, bind_bnd, str01, List.cons.injEq, and_true, decide_true, decide_false, cut_toN, cut_fromN, cut_from1N, cut_to1N, cut_to1, cut_to2, cut_to3, cut_from1, cut_toM1, cut_fromM1, DL.startD, List.map_cons, List.map_nil, List.length_cons, List.length_nil, Nat.reduceAdd, Nat.reduceSub, List.replicate, List.cons_append, List.nil_append, view_eq, viewAt_cons, viewAt_nil, List.contains_cons, List.contains_nil, Nat.reduceBEq, Bool.or_true, Bool.or_false, Bool.true_or, Bool.false_or, if_true, Bool.false_eq_true, if_false, Option.map_some, Option.map_none, see_val, see_own, rd_0, rd_1, rd_2, rd_3, rd_4, rd_5, rd_6, rd_7, rd_8, rd_9, rd_10, rd_11, rd_12, rd_13, rd_14, rd_15, rd_16, rd_17, rd_18, rd_19, rd_20, rd_21, rd_22, rd_23, rd_24, rd_25, rd_26, rd_27, rd_28, rd_29, rd_30, rd_31, rd_32, rd_33, rd_34, rd_35, rd_36, rd_37, rd_38, rd_39, rd_40, rd_41, rd_42, rd_43, rd_44, rd_45, Int.reduceToNat, flat_int, flat_str, flat_bl, flat_non, flat_bag, flat_lst, flat_tup, flat_obj, List.all_cons, List.all_nil, Bool.and_true, Bool.true_and, Bool.and_false, Bool.false_and, keepIf_t, keepIf_f, frz_eq, frzAt_cons, frzAt_nil, List.set_cons_succ, List.set_cons_zero, subD_int, addD_int, negD_int, asI_int, asB_bl, truD_bl, lenF_lst, lenF_tup, intF_int, intF_bl, absF_int, ltD_int, leD_int, gtD_int, geD_int, eqD_int, eqD_str, neD_int, neD_str, inD_str, notInD_str, slD_lst, slD_scr, revD_lst, itemsD_lst, itemsD_tup, itemsD_str, Bool.not_true, Bool.not_false, ixD_l, ixD_t, ofSome, atI_0, atI_1, atI_2, atI_3, atI_4, atI_app, slotD_obj, propD_obj, propN_obj, isC_obj, get0, get1, get2, get3, getS, bName_eq, bTup_eq, bCons_eq, bNil_eq, setAll2_cons, setAll2_nil, setAllD_cons, setAllD_nil, wipeD_cons, wipeD_nil, isi_str_str, isi_int_int, isi_bool_int, List.getElem?_cons_zero, List.getElem?_cons_succ, ↓q_nIf, q_minG2, q_minGs, q_eqC, q_isiO, q_isiO_i, q_isiO_s, q_isiO_n, q_isiO_l, q_isiO_t, q_cndN, q_szL, q_sloL1, q_sloL2, q_sloL3, q_c0, q_c1, q_c2, q_c3, q_c4, q_c5, q_c6, q_c7, q_c8, q_c9, q_c10, q_c11, q_c12, q_c13, q_c14, q_c15, q_c16, q_eqBl, q_neBl, q_bin4, q_sumL, q_disp, q_prs0, q_prs1, q_dc, q_tput, q_tputK, q_inT, q_inTK, q_getT, q_getTK, q_keysI1, q_keys2s, q_keys2i, q_keys2ii, q_neC, q_augSub, q_shr, eq_self, cnd_dt, cnd_df, Int.toNat_natCast, lenF_str, modD_int, divD_int, addD_str, addD_lst, slD_str, revD_str, ixD_str, ixD_str1, ixD_strmod, rng1_int, rng2_int, mulD_intl, mulD_intr, intF_dig, *])
local macro_rules | `(tactic| walk_at "env") => `(tactic| try simp -implicitDefEqProofs only [List.all_cons, List.all_nil, Bool.and_true, Bool.true_and, setAll2_cons, setAll2_nil, bName_eq, env0, List.replicate, flat_int, flat_str, flat_bl, flat_non, flat_bag, flat_lst, flat_tup, flat_obj, keepIf_t, keepIf_f, frz_eq, frzAt_cons, frzAt_nil, List.contains_cons, List.contains_nil, Nat.reduceBEq, Nat.reduceAdd, Bool.or_true, Bool.or_false, Bool.true_or, if_true, Bool.false_eq_true, if_false, Option.map_some, Option.map_none, see_val, see_own, List.set_cons_succ, List.set_cons_zero])
theorem still_fix {t : List Nat} {r : Nat} {y : List Nat} (h0 : 0 < y.length) (h : stB t y = true) : ringL t r y = y := by
  unfold stB at h
  rw [Bool.and_eq_true] at h
  have ht := of_decide_eq_true h.1
  have ha := List.all_eq_true.mp h.2
  have g : ∀ i, rat y i = 48 := fun i => by
    have h1 := Int.emod_nonneg i (by omega : (y.length : Int) ≠ 0)
    have h2 := Int.emod_lt_of_pos i (by omega : (0 : Int) < y.length)
    unfold rat
    rw [List.getD_eq_getElem?_getD, List.getElem?_eq_getElem (by omega), Option.getD_some]
    exact of_decide_eq_true (ha _ (List.getElem_mem _))
  refine rat_ext (ringL_len _ _ _) fun i => ?_
  rw [rat_ring h0, g, g, g]
  unfold sgn
  simpa using ht
theorem still_end {t : List Nat} {r : Nat} {x : List Nat} {m k : Nat} (h0 : 0 < x.length) (hp : IsPath (ringL t r) x m) (hk : k < m) (h : stB t (itN (ringL t r) k x) = true) : k + 1 = m ∧ early (ringL t r) x m = k := by
  have e : itN (ringL t r) (k + 1) x = itN (ringL t r) k x := by
    rw [itN_succ, still_fix (by rw [itN_ring_len]; exact h0) h]
  have hm : k + 1 = m := by
    apply Classical.byContradiction
    intro hc
    have := hp.inj (show k + 1 < m by omega) hk e
    omega
  exact ⟨hm, hp.early_uniq hk (by rw [← hm]; exact e.symm)⟩
/-! ### stands that get still -/
def Still (t : List Nat) (r : Nat) (x : List Nat) : Prop := ∃ k, stB t (itN (ringL t r) k x) = true
theorem in_path {f : List Nat → List Nat} {x : List Nat} {m : Nat} (hp : IsPath f x m) : ∀ k, ∃ j, j < m ∧ itN f k x = itN f j x
  | 0 => ⟨0, hp.pos, rfl⟩
  | k + 1 => by
    obtain ⟨j, hj, e⟩ := in_path hp k
    have e3 : f (itN f j x) = itN f (j + 1) x := (itN_succ f j x).symm
    rw [itN_succ, e, e3]
    by_cases h : j + 1 < m
    · exact ⟨j + 1, h, rfl⟩
    · rw [show j + 1 = m by omega, ← hp.early_eq]
      exact ⟨_, hp.early_lt, rfl⟩
theorem first_still {t : List Nat} {r : Nat} {x : List Nat} {m : Nat} (hp : IsPath (ringL t r) x m) : (Still t r x ∧ ∃ k : Nat, firstS t (ringL t r) x m = .int (k : Int) ∧ stB t (itN (ringL t r) k x) = true ∧ k < m) ∨ (¬ Still t r x ∧ firstS t (ringL t r) x m = .non) := by
  unfold firstS
  cases e : (List.range m).find? fun k => stB t (itN (ringL t r) k x) with
  | some k =>
    have hs := List.find?_some e
    exact .inl ⟨⟨k, hs⟩, k, rfl, hs, List.mem_range.mp (List.mem_of_find?_eq_some e)⟩
  | none =>
    refine .inr ⟨fun ⟨k, hk⟩ => ?_, rfl⟩
    obtain ⟨j, hj, e2⟩ := in_path hp k
    rw [e2] at hk
    exact List.find?_eq_none.mp e j (List.mem_range.mpr hj) hk
theorem early_still {t : List Nat} {r : Nat} {x : List Nat} {m : Nat} (h0 : 0 < x.length) (hp : IsPath (ringL t r) x m) : stB t (itN (ringL t r) (early (ringL t r) x m) x) = true ↔ Still t r x := by
  refine ⟨fun h => ⟨_, h⟩, fun ⟨k, hk⟩ => ?_⟩
  obtain ⟨j, hj, e⟩ := in_path hp k
  rw [e] at hk
  rw [(still_end h0 hp hj hk).2]
  exact hk
theorem still_rev {t : List Nat} {r : Nat} {x : List Nat} (h0 : 0 < x.length) (h : Still t r x) : Still (mirT t) r x.reverse := by
  obtain ⟨k, hk⟩ := h
  refine ⟨k, ?_⟩
  rw [itN_mir h0]
  unfold stB at hk ⊢
  rw [List.all_reverse]
  exact hk
theorem still_rep {t : List Nat} {r : Nat} {x : List Nat} {n : Nat} (h0 : 0 < x.length) (hn : 0 < n) (h : Still t r (repL x n)) : Still t r x := by
  obtain ⟨k, hk⟩ := h
  refine ⟨k, ?_⟩
  rw [itN_rep h0 hn] at hk
  unfold stB at hk ⊢
  rw [Bool.and_eq_true] at hk ⊢
  refine ⟨hk.1, List.all_eq_true.mpr fun c hc => List.all_eq_true.mp hk.2 c ?_⟩
  obtain ⟨m, rfl⟩ : ∃ m, n = m + 1 := ⟨n - 1, by omega⟩
  rw [repL_succ]
  exact List.mem_append_left _ hc
/-! ### quiet tables -/
def Quiet (t : List Nat) (r n : Nat) : Prop := ∀ x : List Nat, x.length = n → Sg r x → Still t r x
theorem mir_mir {t : List Nat} (h : BinT t) : mirT (mirT t) = t := by
  match t, h with
  | [a, b, c, d], h => rfl
  | [], h => exact absurd h.1 (by simp)
  | [_], h => exact absurd h.1 (by simp)
  | [_, _], h => exact absurd h.1 (by simp)
  | [_, _, _], h => exact absurd h.1 (by simp)
  | _ :: _ :: _ :: _ :: _ :: _, h => exact absurd h.1 (by simp)
theorem quiet_mir {t : List Nat} {r n : Nat} (hn : 0 < n) (h : Quiet t r n) : Quiet (mirT t) r n := fun x hx hs => by
  have := still_rev (by rw [List.length_reverse]; omega) (h x.reverse (by rw [List.length_reverse]; exact hx) (fun c hc => hs c (List.mem_reverse.mp hc)))
  rwa [List.reverse_reverse] at this
noncomputable def qB (t : List Nat) (r n : Nat) : Bool := @decide (Quiet t r n) (Classical.propDecidable _)
theorem qB_iff {t : List Nat} {r n : Nat} : qB t r n = true ↔ Quiet t r n := by
  unfold qB
  exact @decide_eq_true_iff _ (Classical.propDecidable _)
noncomputable def quiL (r n : Nat) : List (List Nat) := tabs.filter fun t => qB t r n
theorem quiL_sort {r n : Nat} (hn : 0 < n) : sortS ((quiL r n).map mirT) = quiL r n := by
  refine (sortS_uniq ?_ ?_).symm
  · have e : (quiL r n).map mirT = (tabs.map mirT).filter fun t => qB t r n := by
      rw [List.filter_map]
      unfold quiL
      congr 1
      apply List.filter_congr
      intro t ht
      show qB t r n = qB (mirT t) r n
      rw [Bool.eq_iff_iff, qB_iff, qB_iff]
      refine ⟨quiet_mir hn, fun h => ?_⟩
      have := quiet_mir hn h
      rwa [mir_mir (tabs_bin ht)] at this
    rw [e]
    have : tabs.Perm (tabs.map mirT) := by decide +kernel
    exact this.filter _
  · have : tabs.Pairwise (fun a b => leS a b = true) := by decide +kernel
    exact this.filter _
theorem zero_steps {r : Nat} (hr : r ≤ 2) {x : List Nat} (hx : Sg r x) : ∀ k, ∀ c ∈ itN (ringL [48, 48, 48, 48] r) k x, c = 48 ∨ (49 + k ≤ c ∧ c < 50 + r)
  | 0, c, hc => by
    have := hx c hc
    omega
  | k + 1, c, hc => by
    rw [itN_succ] at hc
    have ih := zero_steps hr hx k
    generalize itN (ringL [48, 48, 48, 48] r) k x = y at hc ih
    unfold ringL at hc
    obtain ⟨i, hi, rfl⟩ := List.mem_map.mp hc
    have hi := List.mem_range.mp hi
    have h1 : y.getD i 0 ∈ y := by
      rw [List.getD_eq_getElem?_getD, List.getElem?_eq_getElem hi, Option.getD_some]
      exact List.getElem_mem hi
    have h2 := ih _ h1
    have h3 : ∀ j, j < 4 → ([48, 48, 48, 48] : List Nat).getD j 0 = 48 := by decide
    unfold sgn
    split
    · refine .inl (h3 _ ?_)
      split <;> split <;> omega
    · split
      · exact .inl rfl
      · exact .inr (by omega)
theorem zero_quiet {r n : Nat} (hr : r ≤ 2) : Quiet [48, 48, 48, 48] r n := fun x _ hx => by
  refine ⟨r + 1, ?_⟩
  unfold stB
  rw [Bool.and_eq_true]
  refine ⟨rfl, List.all_eq_true.mpr fun c hc => decide_eq_true ?_⟩
  have := zero_steps hr hx (r + 1) c hc
  omega
/-! ### the walk -/
theorem still_from_any {t : List Nat} {r : Nat} {x : List Nat} (ht : BinT t) (hr : r ≤ 2) (h0 : 0 < x.length) (hx : Sg r x) (hz : x.length ≤ 100) (hb : (r + 2) ^ x.length ≤ 100000) : (Still t r x ∧ ∃ k : Nat, R_still_from [rul t r, .str x] = M.ret (.int (k : Int)) ∧ stB t (itN (ringL t r) k x) = true) ∨ (¬ Still t r x ∧ R_still_from [rul t r, .str x] = M.ret .non) := by
  obtain ⟨m, hp, _, _⟩ := path_of_is ht hr h0 hx hz hb
  have e := still_from_is ht hr h0 hx hz hb hp
  rcases first_still hp with ⟨h1, k, h2, h3, h4⟩ | ⟨h1, h2⟩
  · exact .inl ⟨h1, k, by rw [e, h2], h3⟩
  · exact .inr ⟨h1, by rw [e, h2]⟩
noncomputable def sB (t : List Nat) (r : Nat) (x : List Nat) : Bool := @decide (Still t r x) (Classical.propDecidable _)
theorem sB_iff {t : List Nat} {r : Nat} {x : List Nat} : sB t r x = true ↔ Still t r x := by
  unfold sB
  exact @decide_eq_true_iff _ (Classical.propDecidable _)
theorem all_quiet {t : List Nat} {r n : Nat} (hr : r ≤ 2) : (allS (sigs r) n).all (fun x => sB t r x) = qB t r n := by
  rw [Bool.eq_iff_iff, qB_iff, List.all_eq_true]
  constructor
  · intro h x hx hs
    exact sB_iff.mp (h x (mem_allS.mpr ⟨hx, fun c hc => (sigs_mem hr).mpr (hs c hc)⟩))
  · intro h x hx
    obtain ⟨h1, h2⟩ := mem_allS.mp hx
    exact sB_iff.mpr (h x h1 fun c hc => (sigs_mem hr).mp (h2 c hc))
theorem quiet_is {r n : Nat} (hr : r ≤ 2) (hn : 0 < n) (hz : n ≤ 100) (hb : (r + 2) ^ n ≤ 1000) : R_quiet_tables [.int (r : Int), .int (n : Int)] = M.ret (strL (quiL r n)) := by
  have sl := sigs_len hr
  have ea := all_stands_is (s := sigs r) (n := n) (by omega) (by omega) (by omega) (by rw [sl]; omega)
  have al : (allS (sigs r) n).length ≤ 1000 := by rw [allS_len, sl]; exact hb
  simp only [R_quiet_tables, F_quiet_tables]
  walk_at "ev"
  refine Ev.eq (ev_loop (fun i ρ => ∃ s3 s4, ρ = [some (.val (.int (r : Int))), some (.val (.int (n : Int))), some (.own (strL ((tabs.take i).filter fun t => qB t r n))), s3, s4]) ⟨_, _, rfl⟩ ?_ ?_)
  · rintro i d ρ hd ⟨s3, s4, rfl⟩
    obtain ⟨t, ht, rfl⟩ := get_map hd
    have hm := tabs_bin (List.mem_of_getElem? ht)
    have ti : tabs.take (i + 1) = tabs.take i ++ [t] := by rw [List.take_add_one, ht]; rfl
    refine ⟨_, rfl, ?_⟩
    walk_at "env"
    walk_at "ev"
    rw [ea]
    walk_at "ev"
    rw [compM_mapI (l := fun x => [(4, D.str x)]) (y := fun x => D.bl (sB t r x)) (fun x hx => ⟨rfl, rfl, ?_⟩)]
    · walk_at "ev"
      rw [allF_map, all_quiet hr]
      walk_at "ev"
      have hl : ((tabs.take i).filter fun t => qB t r n).length ≤ 16 := Nat.le_trans (List.length_filter_le _ _) (Nat.le_trans (List.length_take_le' _ _) (Nat.le_of_eq tabs_len))
      rw [ti, List.filter_append]
      cases hq : qB t r n
      · walk_at "ev"
        simp only [List.filter_cons, List.filter_nil, hq, Bool.false_eq_true, if_false, List.append_nil]
        exact Ev.ret ⟨_, .inl rfl, _, _, rfl⟩
      · walk_at "ev"
        simp only [List.filter_cons, List.filter_nil, hq, if_true]
        exact Ev.ret ⟨_, .inl rfl, _, _, by simp only [strL, List.map_append, List.map_cons, List.map_nil]; rfl⟩
    · obtain ⟨h1, h2⟩ := mem_allS.mp hx
      walk_at "ev"
      rcases still_from_any (x := x) hm hr (by omega) (fun c hc => (sigs_mem hr).mp (h2 c hc)) (by omega) (by rw [h1]; omega) with ⟨h3, k, h4, _⟩ | ⟨h3, h4⟩
      · rw [h4, sB_iff.mpr h3]
        walk_at "ev"
      · rw [h4, (Bool.not_eq_true _).mp (fun h => h3 (sB_iff.mp h))]
        walk_at "ev"
  · rintro ρ ⟨s3, s4, rfl⟩
    rw [List.length_map, List.take_length]
    walk_at "ev"
    exact Ev.ret rfl
theorem alive_is {t : List Nat} {r n : Nat} (ht : BinT t) (hr : r ≤ 2) (hn : 0 < n) (hz : n ≤ 100) (hb : (r + 2) ^ n ≤ 1000) : R__law_stays_alive [rul t r, .int (n : Int)] = M.ret (.bl (!qB t r n)) := by
  have sl := sigs_len hr
  have ea := all_stands_is (s := sigs r) (n := n) (by omega) (by omega) (by omega) (by rw [sl]; omega)
  have al : (allS (sigs r) n).length ≤ 1000 := by rw [allS_len, sl]; exact hb
  simp only [R__law_stays_alive, F__law_stays_alive]
  walk_at "ev"
  rw [ea]
  walk_at "ev"
  refine Ev.eq (Ev.bind (P := Hit (fun _ => True) ((allS (sigs r) n).findSome? fun x => if sB t r x = true then none else some (.bl true))) ?_ ?_)
  · refine ev_mono (ev_searchL (fun ρ => ∃ s2 s3 s4, ρ = [some (.val (rul t r)), some (.val (.int (n : Int))), s2, s3, s4]) ⟨_, _, _, rfl⟩ ?_) fun o h => h.mono fun _ _ => trivial
    rintro x hx ρ ⟨s2, s3, s4, rfl⟩
    obtain ⟨h1, h2⟩ := mem_allS.mp hx
    have hs : Sg r x := fun c hc => (sigs_mem hr).mp (h2 c hc)
    obtain ⟨m, hp, hm, _⟩ := path_of_is ht hr (by omega) hs (by omega) (by rw [h1]; omega)
    have ef := fate_of_is ht hr (by omega) hs (by omega) (by rw [h1]; omega) hp
    have el := hp.early_lt
    have es := is_still_is (r := r) (y := itN (ringL t r) (early (ringL t r) x m) x) ht.1 (by rw [itN_ring_len]; omega)
    have eb : stB t (itN (ringL t r) (early (ringL t r) x m) x) = sB t r x := by
      rw [Bool.eq_iff_iff, sB_iff]
      exact early_still (by omega) hp
    rw [eb] at es
    rw [h1] at hm
    refine ⟨_, rfl, ?_⟩
    walk_at "env"
    walk_at "ev"
    rw [ef]
    walk_at "ev"
    rw [es]
    cases hq : sB t r x
    · walk_at "ev"
      exact Ev.ret rfl
    · walk_at "ev"
      exact Ev.ret ⟨_, rfl, _, _, _, rfl⟩
  · intro o ho
    cases e : (allS (sigs r) n).findSome? fun x => if sB t r x = true then none else some (D.bl true) with
    | some d =>
      rw [e] at ho
      have ho : o = .rt d := ho
      subst ho
      obtain ⟨x, hx, hx2⟩ := List.exists_of_findSome?_eq_some e
      have hn : ¬ sB t r x = true := fun h => by rw [if_pos h] at hx2; cases hx2
      rw [if_neg hn] at hx2
      cases hx2
      have : qB t r n = false := by
        rw [← all_quiet hr, List.all_eq_false]
        exact ⟨x, hx, hn⟩
      rw [this]
      walk_at "ev"
      exact Ev.ret rfl
    | none =>
      rw [e] at ho
      obtain ⟨ρ, rfl, _⟩ := ho
      have : qB t r n = true := by
        rw [← all_quiet hr, List.all_eq_true]
        intro x hx
        have := List.findSome?_eq_none_iff.mp e x hx
        apply Classical.byContradiction
        intro h
        rw [if_neg h] at this
        cases this
      rw [this]
      walk_at "ev"
      exact Ev.ret rfl
theorem in_neg (x : List Nat) (ls : List (List Nat)) : inE true (.str x) (.lst (ls.map D.str)) = M.ret (.bl (!decide (x ∈ ls))) := by
  have hf : (flatD (.str x) && (ls.map D.str).all flatD) = true := by simp [flatD]
  have e : ((ls.map D.str).any fun y => eqF y (.str x)) = decide (x ∈ ls) := by
    rw [Bool.eq_iff_iff, List.any_map, List.any_eq_true, decide_eq_true_iff]
    constructor
    · rintro ⟨a, ha, h⟩
      have : a = x := by simpa [eqF] using h
      exact this ▸ ha
    · intro h
      exact ⟨x, h, by simp [eqF]⟩
  have e2 : inE true (.str x) (.lst (ls.map D.str)) = M.guard (flatD (.str x) && (ls.map D.str).all flatD) (M.ret (.bl (!(ls.map D.str).any fun y => eqF y (.str x)))) := by
    cases x with
    | nil => rfl
    | cons c r => cases r <;> rfl
  rw [e2, M.guard_of hf, e]
theorem mem_qui {t : List Nat} {r n : Nat} (ht : t ∈ tabs) : decide (t ∈ quiL r n) = qB t r n := by
  rw [Bool.eq_iff_iff, decide_eq_true_iff]
  unfold quiL
  rw [List.mem_filter]
  exact ⟨fun h => h.2, fun h => ⟨ht, h⟩⟩
theorem qui_len (r n : Nat) : (quiL r n).length ≤ 16 := Nat.le_trans (List.length_filter_le _ _) (Nat.le_of_eq tabs_len)
theorem qui_ok (r n : Nat) : okA (.lst (strL (quiL r n))) = true := (strL_tab_okd (fun t h => (List.mem_filter.mp h).1) (qui_len r n)).ok (by omega) (by decide)
theorem ones {t : List Nat} {r n : Nat} : ∀ k, k ≤ r → itN (ringL t r) k (List.replicate n 49) = List.replicate n (49 + k)
  | 0, _ => rfl
  | k + 1, h => by
    rw [itN_succ, ones k (by omega)]
    apply List.ext_getElem
    · rw [ringL_len, List.length_replicate, List.length_replicate]
    · intro i h1 h2
      rw [List.length_replicate] at h2
      simp only [ringL, List.getElem_map, List.getElem_range, List.getElem_replicate]
      have : (List.replicate n (49 + k)).getD i 0 = 49 + k := by
        rw [List.getD_eq_getElem?_getD, List.getElem?_eq_getElem (by rw [List.length_replicate]; exact h2), Option.getD_some, List.getElem_replicate]
      rw [this]
      unfold sgn
      rw [if_neg (by omega), if_neg (by omega)]
      omega
theorem ones_late {t : List Nat} {r n k : Nat} (hn : 0 < n) (h : stB t (itN (ringL t r) k (List.replicate n 49)) = true) : r + 1 ≤ k := by
  apply Classical.byContradiction
  intro hk
  rw [ones k (by omega)] at h
  unfold stB at h
  rw [Bool.and_eq_true] at h
  have := of_decide_eq_true (List.all_eq_true.mp h.2 (49 + k) (List.mem_replicate.mpr ⟨by omega, rfl⟩))
  omega
theorem quiet_part {t : List Nat} {r n c : Nat} (hn : 0 < n) (hc : 0 < c) (h : Quiet t r (c * n)) : Quiet t r n := fun x hx hs => still_rep (by omega) hc (h (repL x c) (by rw [repL_len, hx]) (sg_rep hs c))
theorem maxF_ints {is : List Int} (h : is ≠ []) : ∃ m : Int, maxF [.lst (is.map D.int)] = M.ret (.int m) ∧ ∀ i ∈ is, i ≤ m := by
  have e : ∀ l : List Int, intsD (l.map D.int) = some l := fun l => by
    induction l with
    | nil => rfl
    | cons a l ih => simp [intsD, ih]
  cases is with
  | nil => exact absurd rfl h
  | cons i l =>
    refine ⟨maxL (i :: l), ?_, (foldl_max l i).2⟩
    show (match intsD ((i :: l).map D.int) with
      | some (i :: r) => M.ret (D.int (maxL (i :: r)))
      | _ => M.fail) = _
    rw [e]
theorem non_ints (is : List Int) : inE false .non (.lst (is.map D.int)) = M.ret (.bl false) := by
  have hf : (flatD .non && (is.map D.int).all flatD) = true := by simp [flatD]
  have e : ((is.map D.int).any fun y => eqF y .non) = false := by
    rw [List.any_map, List.any_eq_false]
    intro i _
    simp [eqF]
  show M.guard _ _ = _
  rw [M.guard_of hf]
  simp only [e]
  rfl
theorem right_tot {p : Addr} {r n : Nat} (hr : r ≤ 2) (hn : 0 < n) (hz : n ≤ 100) (hb : (r + 2) ^ n ≤ 1000) : Tot p (R__law_right_4 [.int (r : Int), .int (n : Int)]) (· = .bl true) := by
  have ql := qui_len r n
  have sl := sigs_len hr
  have ea := all_stands_is (s := sigs r) (n := n) (by omega) (by omega) (by omega) (by rw [sl]; omega)
  have al : (allS (sigs r) n).length ≤ 1000 := by rw [allS_len, sl]; exact hb
  simp only [R__law_right_4, F__law_right_4]
  walk_at "ev"
  rw [quiet_is hr hn hz hb]
  walk_at "ev"
  rw [in_neg, decide_eq_true (show [48, 48, 48, 48] ∈ quiL r n from List.mem_filter.mpr ⟨by decide, qB_iff.mpr (zero_quiet hr)⟩)]
  walk_at "ev"
  rw [compM_mapI (l := fun t => [(8, D.str t)]) (y := fun t => D.str (mirT t)) (fun t ht => ⟨rfl, rfl, by
    have := tabs_bin (List.mem_filter.mp ht).1
    walk_at "ev"⟩)]
  walk_at "ev"
  rw [show (quiL r n).map (fun t => D.str (mirT t)) = ((quiL r n).map mirT).map D.str by rw [List.map_map]; rfl, sortedF_strs, quiL_sort hn]
  walk_at "ev"
  rw [show eqD true (D.lst (strL (quiL r n))) (D.lst (List.map D.str (quiL r n))) = M.ret (.bl false) from neD_same (qui_ok r n)]
  walk_at "ev"
  refine tot_loopC (fun ρ => ∃ s3 s4 s5 s6 s7 s8, ρ = [some (.val (.int (r : Int))), some (.val (.int (n : Int))), some (.own (strL (quiL r n))), s3, s4, s5, s6, s7, s8]) ⟨_, _, _, _, _, _, rfl⟩ ?_ ?_
  · rintro d hd ρ ⟨s3, s4, s5, s6, s7, s8, rfl⟩
    obtain ⟨t, ht, rfl⟩ := List.mem_map.mp hd
    have hm := tabs_bin ht
    refine ⟨_, rfl, ?_⟩
    walk_at "env"
    walk_at "ev"
    rw [show inE false (D.str t) (D.lst (strL (quiL r n))) = M.ret (.bl (qB t r n)) by rw [← mem_qui ht]; exact inE_strs t _]
    walk_at "ev"
    rw [alive_is hm hr hn hz hb]
    walk_at "ev"
    rw [show inE false (D.str t) (D.lst (strL (quiL r n))) = M.ret (.bl (qB t r n)) by rw [← mem_qui ht]; exact inE_strs t _]
    walk_at "ev"
    cases hq : qB t r n
    · walk_at "ev"
      exact Tot.ret ⟨_, .inl rfl, _, _, _, _, _, _, rfl⟩
    · have qq := qB_iff.mp hq
      have hK : ∀ x : List Nat, ∃ k : Nat, x ∈ allS (sigs r) n → R_still_from [rul t r, .str x] = M.ret (.int (k : Int)) ∧ stB t (itN (ringL t r) k x) = true := fun x => by
        by_cases hx : x ∈ allS (sigs r) n
        · obtain ⟨h1, h2⟩ := mem_allS.mp hx
          have hs : Sg r x := fun c hc => (sigs_mem hr).mp (h2 c hc)
          rcases still_from_any (x := x) hm hr (by omega) hs (by omega) (by rw [h1]; omega) with ⟨h3, k, h4, h5⟩ | ⟨h3, h4⟩
          · exact ⟨k, fun _ => ⟨h4, h5⟩⟩
          · exact absurd (qq x h1 hs) h3
        · exact ⟨0, fun h => absurd h hx⟩
      obtain ⟨K, hK⟩ := Classical.axiomOfChoice hK
      walk_at "ev"
      rw [ea]
      walk_at "ev"
      rw [compM_mapI (l := fun x => [(7, D.str x)]) (y := fun x => D.int (K x : Int)) (fun x hx => ⟨rfl, rfl, by
        have := (hK x hx).1
        walk_at "ev"
        rw [this]⟩)]
      have em : (allS (sigs r) n).map (fun x => D.int (K x : Int)) = ((allS (sigs r) n).map fun x => (K x : Int)).map D.int := by rw [List.map_map]; rfl
      have o1 : List.replicate n 49 ∈ allS (sigs r) n := mem_allS.mpr ⟨List.length_replicate, fun c hc => by
        rw [(List.mem_replicate.mp hc).2, sigs_mem hr]
        omega⟩
      have ol := ones_late hn (hK _ o1).2
      obtain ⟨mx, m1, m2⟩ := maxF_ints (is := (allS (sigs r) n).map fun x => (K x : Int)) (fun e => by
        rw [List.map_eq_nil_iff] at e
        rw [e] at o1
        cases o1)
      have m3 := m2 _ (List.mem_map.mpr ⟨_, o1, rfl⟩)
      rw [em]
      have el : ((allS (sigs r) n).map fun x => (K x : Int)).length ≤ 1000 := by rw [List.length_map]; exact al
      have fl : (((allS (sigs r) n).map fun x => (K x : Int)).map D.int).all D.flat = true := by
        rw [List.all_map, List.all_eq_true]
        exact fun _ _ => rfl
      walk_at "ev"
      rw [fl]
      walk_at "ev"
      rw [non_ints]
      walk_at "ev"
      rw [m1]
      walk_at "ev"
      exact Tot.ret ⟨_, .inl rfl, _, _, _, _, _, _, rfl⟩
  · rintro ρ ⟨s3, s4, s5, s6, s7, s8, rfl⟩
    walk_at "ev"
    refine tot_loopR (fun ρ => ∃ s3 s4 s5 s6 s7 s8, ρ = [some (.val (.int (r : Int))), some (.val (.int (n : Int))), some (.own (strL (quiL r n))), s3, s4, s5, s6, s7, s8]) ⟨_, _, _, _, _, _, rfl⟩ ?_ ?_
    · rintro k hk ρ ⟨s3, s4, s5, s6, s7, s8, rfl⟩
      walk_at "env"
      walk_at "ev"
      refine tot_cndD (fun h => ?_) fun h => ?_
      · obtain ⟨c, hc⟩ : ∃ c, n = c * (1 + k) := by
          have h' : ((n % (1 + k) : Nat) : Int) = 0 := by
            rw [Int.natCast_emod, Int.natCast_add]
            exact h
          have : n % (1 + k) = 0 := by omega
          exact ⟨n / (1 + k), (Nat.div_mul_cancel (Nat.dvd_of_mod_eq_zero this)).symm⟩
        have c0 : 0 < c := by
          apply Nat.pos_of_ne_zero
          intro e
          rw [e] at hc
          omega
        have pb := pow_small_le (k := r + 2) (i := 1 + k) (by omega) (show 1 + k ≤ n by omega) hb
        have ql2 := qui_len r (1 + k)
        rw [show (1 + (k : Int)) = ((1 + k : Nat) : Int) by omega]
        walk_at "ev"
        rw [quiet_is hr (by omega) (by omega) pb]
        walk_at "ev"
        rw [compM_filterI (l := fun t => [(8, D.str t)]) (k := fun t => !decide (t ∈ quiL r (1 + k))) (y := fun t => D.str t) (fun t ht => ⟨rfl, by
          walk_at "ev"
          rw [show inE true (D.str t) (D.lst (strL (quiL r (1 + k)))) = M.ret (.bl (!decide (t ∈ quiL r (1 + k)))) from in_neg t _]
          walk_at "ev", by walk_at "ev"⟩), show ((quiL r n).filter fun t => !decide (t ∈ quiL r (1 + k))) = [] from List.filter_eq_nil_iff.mpr fun t ht => by
            have ht := List.mem_filter.mp ht
            have := quiet_part (by omega) c0 (hc ▸ qB_iff.mp ht.2)
            rw [decide_eq_true (show t ∈ quiL r (1 + k) from List.mem_filter.mpr ⟨ht.1, qB_iff.mpr this⟩)]
            simp]
        walk_at "ev"
        rw [show eqD true (D.lst []) (D.lst []) = M.ret (.bl false) from neD_same (by decide +kernel)]
        walk_at "ev"
        exact Tot.ret ⟨_, .inl rfl, _, _, _, _, _, _, rfl⟩
      · walk_at "ev"
        exact Tot.ret ⟨_, .inl rfl, _, _, _, _, _, _, rfl⟩
    · rintro ρ ⟨s3, s4, s5, s6, s7, s8, rfl⟩
      walk_at "ev"
      exact Tot.ret rfl
theorem math : ∀ (p : Addr), Tot p (F_law (env0 1 p)) fun o => o = .rt (.bl true) := by
  intro p
  unfold F_law
  walk_at "env"
  walk_at "ev"
  refine (take_n (by omega) (by omega)).bnd ?_
  rintro _ ⟨r, rfl, hr⟩
  walk_at "ev"
  refine Tot.bnd (P := fun d => ∃ m : Nat, d = .int (m : Int) ∧ 1 ≤ m ∧ ∀ k, k < m → (r + 2) ^ (1 + k) ≤ 1000 ∧ k < 4) ?_ ?_
  · have : r = 0 ∨ r = 1 ∨ r = 2 := by omega
    rcases this with rfl | rfl | rfl
    · exact Tot.ret (a := D.int 4) ⟨4, rfl, by decide, by decide⟩
    · exact Tot.ret (a := D.int 4) ⟨4, rfl, by decide, by decide⟩
    · exact Tot.ret (a := D.int 3) ⟨3, rfl, by decide, by decide⟩
  rintro _ ⟨m, rfl, m1, m2⟩
  have m4 : m ≤ 4 := by
    have := m2 (m - 1) (by omega)
    omega
  walk_at "ev"
  refine (take_n (by omega) (by omega)).bnd ?_
  rintro _ ⟨k, rfl, hk⟩
  walk_at "ev"
  rw [show (1 + (k : Int)) = ((1 + k : Nat) : Int) by omega]
  have := m2 k (by omega)
  refine (right_tot (by omega) (by omega) (by omega) this.1).bnd ?_
  rintro _ rfl
  walk_at "ev"
  exact Tot.ret rfl
end LW
set_option Elab.async false
set_option maxRecDepth 100000
set_option autoImplicit false
set_option linter.unusedVariables false
set_option maxHeartbeats 4000000
namespace LW
open PySem L2 PySem.Spec PyProof.Rows DL
theorem all_mk {l : PySem.W.OpenLaw} {w : World} {K : PySem.W.Frag} {h : Heap} {mg : Str → Option Value} {fa : Addr} (X : K.In h) (G : h.Ns mainGlobals mg) (hfa : mg "law" = some (.ref fa))
    {T5 : Addr} {to5 : Value} {td5 : Option Addr} {tn5 : Nat} {ts5 : Array (Option Value)} {tk5_0 : Tok}
    {f0 : Addr} {od0 an0 : Option Addr} {sl0 : Array (Option Value)} {oc0 kV0 dc0 pm0 cd0 ct0 : Value}
    {f1 : Addr} {od1 an1 : Option Addr} {sl1 : Array (Option Value)} {oc1 kV1 dc1 pm1 cd1 ct1 : Value}
    {f2 : Addr} {od2 an2 : Option Addr} {sl2 : Array (Option Value)} {oc2 kV2 dc2 pm2 cd2 ct2 : Value}
    {f3 : Addr} {od3 an3 : Option Addr} {sl3 : Array (Option Value)} {oc3 kV3 dc3 pm3 cd3 ct3 : Value}
    {f4 : Addr} {od4 an4 : Option Addr} {sl4 : Array (Option Value)} {oc4 kV4 dc4 pm4 cd4 ct4 : Value}
    {f5 : Addr} {od5 an5 : Option Addr} {sl5 : Array (Option Value)} {oc5 kV5 dc5 pm5 cd5 ct5 : Value}
    {f6 : Addr} {od6 an6 : Option Addr} {sl6 : Array (Option Value)} {oc6 kV6 dc6 pm6 cd6 ct6 : Value}
    {f7 : Addr} {od7 an7 : Option Addr} {sl7 : Array (Option Value)} {oc7 kV7 dc7 pm7 cd7 ct7 : Value}
    {f8 : Addr} {od8 an8 : Option Addr} {sl8 : Array (Option Value)} {oc8 kV8 dc8 pm8 cd8 ct8 : Value}
    {f9 : Addr} {od9 an9 : Option Addr} {sl9 : Array (Option Value)} {oc9 kV9 dc9 pm9 cd9 ct9 : Value}
    {f10 : Addr} {od10 an10 : Option Addr} {sl10 : Array (Option Value)} {oc10 kV10 dc10 pm10 cd10 ct10 : Value}
    {f11 : Addr} {od11 an11 : Option Addr} {sl11 : Array (Option Value)} {oc11 kV11 dc11 pm11 cd11 ct11 : Value}
    {f12 : Addr} {od12 an12 : Option Addr} {sl12 : Array (Option Value)} {oc12 kV12 dc12 pm12 cd12 ct12 : Value}
    {f13 : Addr} {od13 an13 : Option Addr} {sl13 : Array (Option Value)} {oc13 kV13 dc13 pm13 cd13 ct13 : Value}
    {f14 : Addr} {od14 an14 : Option Addr} {sl14 : Array (Option Value)} {oc14 kV14 dc14 pm14 cd14 ct14 : Value}
    {f15 : Addr} {od15 an15 : Option Addr} {sl15 : Array (Option Value)} {oc15 kV15 dc15 pm15 cd15 ct15 : Value}
    {f16 : Addr} {od16 an16 : Option Addr} {sl16 : Array (Option Value)} {oc16 kV16 dc16 pm16 cd16 ct16 : Value}
    {f17 : Addr} {od17 an17 : Option Addr} {sl17 : Array (Option Value)} {oc17 kV17 dc17 pm17 cd17 ct17 : Value}
    {f18 : Addr} {od18 an18 : Option Addr} {sl18 : Array (Option Value)} {oc18 kV18 dc18 pm18 cd18 ct18 : Value}
    {f19 : Addr} {od19 an19 : Option Addr} {sl19 : Array (Option Value)} {oc19 kV19 dc19 pm19 cd19 ct19 : Value}
    {f20 : Addr} {od20 an20 : Option Addr} {sl20 : Array (Option Value)} {oc20 kV20 dc20 pm20 cd20 ct20 : Value}
    {f21 : Addr} {od21 an21 : Option Addr} {sl21 : Array (Option Value)} {oc21 kV21 dc21 pm21 cd21 ct21 : Value}
    {f22 : Addr} {od22 an22 : Option Addr} {sl22 : Array (Option Value)} {oc22 kV22 dc22 pm22 cd22 ct22 : Value}
    {C_Rule : Addr}
    {p_Rule_its_rests : Addr}
    {p_Rule_its_table : Addr}
    {g_Rule_all_of : Addr} {r_Rule_all_of : List Value}
    {g_Rule_table : Addr} {r_Rule_table : List Value}
    {g_Rule_signs : Addr} {r_Rule_signs : List Value}
    {t_MOST_RESTS : Tok}
    {t_SIGNS : Tok}
    (q1_Rule : PySem.W.nsIn K mainGlobals "Rule" = some (some (.ref C_Rule)))
    (q2_Rule : PySem.W.plainGet K C_Rule Str.empty = true)
    (q3_Rule : PySem.W.isClsIn K C_Rule = true)
    (q4_Rule : PySem.W.plainOver K C_Rule = true)
    (q5_Rule : PySem.W.findIn K (.ref C_Rule) "__setattr__" = some (some (.builtin "object.__setattr__")))
    (a0 : PySem.W.nsIn K mainGlobals "_law_bag" = some (some (.ref f0)))
    (l0 : K.lookup f0 = some ⟨oc0, od0, .func (PySem.W.fnOf "_law_bag" "_law_bag" (defArgs s__law_bag) (defBody s__law_bag) (defScope s__law_bag) .none kV0 dc0 pm0 an0 cd0 ct0), sl0⟩)
    (c0 : PySem.W.codeIn K cd0 "_law_bag" = true)
    (k0 : PySem.W.keepIn K (.ref f0) = true)
    (a1 : PySem.W.nsIn K mainGlobals "_law_take" = some (some (.ref f1)))
    (l1 : K.lookup f1 = some ⟨oc1, od1, .func (PySem.W.fnOf "_law_take" "_law_take" (defArgs s__law_take) (defBody s__law_take) (defScope s__law_take) .none kV1 dc1 pm1 an1 cd1 ct1), sl1⟩)
    (c1 : PySem.W.codeIn K cd1 "_law_take" = true)
    (k1 : PySem.W.keepIn K (.ref f1) = true)
    (a2 : PySem.W.nsIn K mainGlobals "is_row" = some (some (.ref f2)))
    (l2 : K.lookup f2 = some ⟨oc2, od2, .func (PySem.W.fnOf "is_row" "is_row" (defArgs s_is_row) (defBody s_is_row) (defScope s_is_row) .none kV2 dc2 pm2 an2 cd2 ct2), sl2⟩)
    (c2 : PySem.W.codeIn K cd2 "is_row" = true)
    (k2 : PySem.W.keepIn K (.ref f2) = true)
    (a3 : PySem.W.nsIn K mainGlobals "is_table" = some (some (.ref f3)))
    (l3 : K.lookup f3 = some ⟨oc3, od3, .func (PySem.W.fnOf "is_table" "is_table" (defArgs s_is_table) (defBody s_is_table) (defScope s_is_table) .none kV3 dc3 pm3 an3 cd3 ct3), sl3⟩)
    (c3 : PySem.W.codeIn K cd3 "is_table" = true)
    (k3 : PySem.W.keepIn K (.ref f3) = true)
    (a4 : PySem.W.nsIn K mainGlobals "is_integer" = some (some (.ref f4)))
    (l4 : K.lookup f4 = some ⟨oc4, od4, .func (PySem.W.fnOf "is_integer" "is_integer" (defArgs s_is_integer) (defBody s_is_integer) (defScope s_is_integer) .none kV4 dc4 pm4 an4 cd4 ct4), sl4⟩)
    (c4 : PySem.W.codeIn K cd4 "is_integer" = true)
    (k4 : PySem.W.keepIn K (.ref f4) = true)
    (a5 : PySem.W.findIn K (.ref C_Rule) "__init__" = some (some (.ref f5)))
    (b5 : PySem.W.isFn K (.ref f5) = true)
    (e5 : PySem.W.makesIn K C_Rule = true)
    (h5 : PySem.W.keepIn K (.ref C_Rule) = true)
    (l5 : K.lookup f5 = some ⟨oc5, od5, .func (PySem.W.fnOf "__init__" "Rule.__init__" (defArgs s_Rule___init__) (defBody s_Rule___init__) (defScope s_Rule___init__) (.ref T5) kV5 dc5 pm5 an5 cd5 ct5), sl5⟩)
    (d5 : K.lookup T5 = some ⟨to5, td5, .seq [.int 1 tk5_0].toArray tn5, ts5⟩)
    (c5 : PySem.W.codeIn K cd5 "Rule.__init__" = true)
    (k5 : PySem.W.keepIn K (.ref f5) = true)
    (a6 : PySem.W.findCls K (.ref C_Rule) (.type "type") "all_of" = some (.get (.builtin "staticmethod.__get__") (.ref g_Rule_all_of) .none (.ref C_Rule)))
    (b6 : PySem.W.readsIn K C_Rule (.type "type") = true)
    (e6 : PySem.W.specialIn K (.ref C_Rule) "__getattribute__" = some (some (.builtin "type.__getattribute__")))
    (h6 : PySem.W.recIn K g_Rule_all_of "staticmethod" = some (.ref f6 :: r_Rule_all_of))
    (l6 : K.lookup f6 = some ⟨oc6, od6, .func (PySem.W.fnOf "all_of" "Rule.all_of" (defArgs s_Rule_all_of) (defBody s_Rule_all_of) (defScope s_Rule_all_of) .none kV6 dc6 pm6 an6 cd6 ct6), sl6⟩)
    (c6 : PySem.W.codeIn K cd6 "Rule.all_of" = true)
    (k6 : PySem.W.keepIn K (.ref f6) = true)
    (a7 : PySem.W.findIn K (.ref C_Rule) "table" = some (some (.ref g_Rule_table)))
    (b7 : PySem.W.specialIn K (.ref g_Rule_table) "__get__" = some (some (.builtin "property.__get__")))
    (e7 : PySem.W.takesIn K (.ref g_Rule_table) = some true)
    (h7 : PySem.W.recIn K g_Rule_table "property" = some (.ref f7 :: r_Rule_table))
    (l7 : K.lookup f7 = some ⟨oc7, od7, .func (PySem.W.fnOf "table" "Rule.table" (defArgs s_Rule_table) (defBody s_Rule_table) (defScope s_Rule_table) .none kV7 dc7 pm7 an7 cd7 ct7), sl7⟩)
    (c7 : PySem.W.codeIn K cd7 "Rule.table" = true)
    (k7 : PySem.W.keepIn K (.ref f7) = true)
    (a8 : PySem.W.nsIn K mainGlobals "sign_after" = some (some (.ref f8)))
    (l8 : K.lookup f8 = some ⟨oc8, od8, .func (PySem.W.fnOf "sign_after" "sign_after" (defArgs s_sign_after) (defBody s_sign_after) (defScope s_sign_after) .none kV8 dc8 pm8 an8 cd8 ct8), sl8⟩)
    (c8 : PySem.W.codeIn K cd8 "sign_after" = true)
    (k8 : PySem.W.keepIn K (.ref f8) = true)
    (a9 : PySem.W.nsIn K mainGlobals "row_after_beat" = some (some (.ref f9)))
    (l9 : K.lookup f9 = some ⟨oc9, od9, .func (PySem.W.fnOf "row_after_beat" "row_after_beat" (defArgs s_row_after_beat) (defBody s_row_after_beat) (defScope s_row_after_beat) .none kV9 dc9 pm9 an9 cd9 ct9), sl9⟩)
    (c9 : PySem.W.codeIn K cd9 "row_after_beat" = true)
    (k9 : PySem.W.keepIn K (.ref f9) = true)
    (a10 : PySem.W.findIn K (.ref C_Rule) "signs" = some (some (.ref g_Rule_signs)))
    (b10 : PySem.W.specialIn K (.ref g_Rule_signs) "__get__" = some (some (.builtin "property.__get__")))
    (e10 : PySem.W.takesIn K (.ref g_Rule_signs) = some true)
    (h10 : PySem.W.recIn K g_Rule_signs "property" = some (.ref f10 :: r_Rule_signs))
    (l10 : K.lookup f10 = some ⟨oc10, od10, .func (PySem.W.fnOf "signs" "Rule.signs" (defArgs s_Rule_signs) (defBody s_Rule_signs) (defScope s_Rule_signs) .none kV10 dc10 pm10 an10 cd10 ct10), sl10⟩)
    (c10 : PySem.W.codeIn K cd10 "Rule.signs" = true)
    (k10 : PySem.W.keepIn K (.ref f10) = true)
    (a11 : PySem.W.findIn K (.ref C_Rule) "ring_after" = some (some (.ref f11)))
    (b11 : PySem.W.isFn K (.ref f11) = true)
    (l11 : K.lookup f11 = some ⟨oc11, od11, .func (PySem.W.fnOf "ring_after" "Rule.ring_after" (defArgs s_Rule_ring_after) (defBody s_Rule_ring_after) (defScope s_Rule_ring_after) .none kV11 dc11 pm11 an11 cd11 ct11), sl11⟩)
    (c11 : PySem.W.codeIn K cd11 "Rule.ring_after" = true)
    (k11 : PySem.W.keepIn K (.ref f11) = true)
    (a12 : PySem.W.nsIn K mainGlobals "path_of" = some (some (.ref f12)))
    (l12 : K.lookup f12 = some ⟨oc12, od12, .func (PySem.W.fnOf "path_of" "path_of" (defArgs s_path_of) (defBody s_path_of) (defScope s_path_of) .none kV12 dc12 pm12 an12 cd12 ct12), sl12⟩)
    (c12 : PySem.W.codeIn K cd12 "path_of" = true)
    (k12 : PySem.W.keepIn K (.ref f12) = true)
    (a13 : PySem.W.findIn K (.ref C_Rule) "is_still" = some (some (.ref f13)))
    (b13 : PySem.W.isFn K (.ref f13) = true)
    (l13 : K.lookup f13 = some ⟨oc13, od13, .func (PySem.W.fnOf "is_still" "Rule.is_still" (defArgs s_Rule_is_still) (defBody s_Rule_is_still) (defScope s_Rule_is_still) .none kV13 dc13 pm13 an13 cd13 ct13), sl13⟩)
    (c13 : PySem.W.codeIn K cd13 "Rule.is_still" = true)
    (k13 : PySem.W.keepIn K (.ref f13) = true)
    (a14 : PySem.W.nsIn K mainGlobals "still_from" = some (some (.ref f14)))
    (l14 : K.lookup f14 = some ⟨oc14, od14, .func (PySem.W.fnOf "still_from" "still_from" (defArgs s_still_from) (defBody s_still_from) (defScope s_still_from) .none kV14 dc14 pm14 an14 cd14 ct14), sl14⟩)
    (c14 : PySem.W.codeIn K cd14 "still_from" = true)
    (k14 : PySem.W.keepIn K (.ref f14) = true)
    (a15 : PySem.W.nsIn K mainGlobals "all_stands" = some (some (.ref f15)))
    (l15 : K.lookup f15 = some ⟨oc15, od15, .func (PySem.W.fnOf "all_stands" "all_stands" (defArgs s_all_stands) (defBody s_all_stands) (defScope s_all_stands) .none kV15 dc15 pm15 an15 cd15 ct15), sl15⟩)
    (c15 : PySem.W.codeIn K cd15 "all_stands" = true)
    (k15 : PySem.W.keepIn K (.ref f15) = true)
    (a16 : PySem.W.nsIn K mainGlobals "quiet_tables" = some (some (.ref f16)))
    (l16 : K.lookup f16 = some ⟨oc16, od16, .func (PySem.W.fnOf "quiet_tables" "quiet_tables" (defArgs s_quiet_tables) (defBody s_quiet_tables) (defScope s_quiet_tables) .none kV16 dc16 pm16 an16 cd16 ct16), sl16⟩)
    (c16 : PySem.W.codeIn K cd16 "quiet_tables" = true)
    (k16 : PySem.W.keepIn K (.ref f16) = true)
    (a17 : PySem.W.nsIn K mainGlobals "fate_of" = some (some (.ref f17)))
    (l17 : K.lookup f17 = some ⟨oc17, od17, .func (PySem.W.fnOf "fate_of" "fate_of" (defArgs s_fate_of) (defBody s_fate_of) (defScope s_fate_of) .none kV17 dc17 pm17 an17 cd17 ct17), sl17⟩)
    (c17 : PySem.W.codeIn K cd17 "fate_of" = true)
    (k17 : PySem.W.keepIn K (.ref f17) = true)
    (a18 : PySem.W.nsIn K mainGlobals "after" = some (some (.ref f18)))
    (l18 : K.lookup f18 = some ⟨oc18, od18, .func (PySem.W.fnOf "after" "after" (defArgs s_after) (defBody s_after) (defScope s_after) .none kV18 dc18 pm18 an18 cd18 ct18), sl18⟩)
    (c18 : PySem.W.codeIn K cd18 "after" = true)
    (k18 : PySem.W.keepIn K (.ref f18) = true)
    (a19 : PySem.W.nsIn K mainGlobals "_law_stays_alive" = some (some (.ref f19)))
    (l19 : K.lookup f19 = some ⟨oc19, od19, .func (PySem.W.fnOf "_law_stays_alive" "_law_stays_alive" (defArgs s__law_stays_alive) (defBody s__law_stays_alive) (defScope s__law_stays_alive) .none kV19 dc19 pm19 an19 cd19 ct19), sl19⟩)
    (c19 : PySem.W.codeIn K cd19 "_law_stays_alive" = true)
    (k19 : PySem.W.keepIn K (.ref f19) = true)
    (a20 : PySem.W.findIn K (.ref C_Rule) "mirrored" = some (some (.ref f20)))
    (b20 : PySem.W.isFn K (.ref f20) = true)
    (l20 : K.lookup f20 = some ⟨oc20, od20, .func (PySem.W.fnOf "mirrored" "Rule.mirrored" (defArgs s_Rule_mirrored) (defBody s_Rule_mirrored) (defScope s_Rule_mirrored) .none kV20 dc20 pm20 an20 cd20 ct20), sl20⟩)
    (c20 : PySem.W.codeIn K cd20 "Rule.mirrored" = true)
    (k20 : PySem.W.keepIn K (.ref f20) = true)
    (a21 : PySem.W.nsIn K mainGlobals "_law_right" = some (some (.ref f21)))
    (l21 : K.lookup f21 = some ⟨oc21, od21, .func (PySem.W.fnOf "_law_right" "_law_right" (defArgs s__law_right) (defBody s__law_right) (defScope s__law_right) .none kV21 dc21 pm21 an21 cd21 ct21), sl21⟩)
    (c21 : PySem.W.codeIn K cd21 "_law_right" = true)
    (k21 : PySem.W.keepIn K (.ref f21) = true)
    (a22 : PySem.W.nsIn K mainGlobals "law" = some (some (.ref f22)))
    (l22 : K.lookup f22 = some ⟨oc22, od22, .func (PySem.W.fnOf "law" "law" (defArgs s_law) (defBody s_law) (defScope s_law) .none kV22 dc22 pm22 an22 cd22 ct22), sl22⟩)
    (c22 : PySem.W.codeIn K cd22 "law" = true)
    (k22 : PySem.W.keepIn K (.ref f22) = true)
    (s1_Rule_its_rests : PySem.W.findIn K (.ref C_Rule) "its_rests" = some (some (.ref p_Rule_its_rests)))
    (s2_Rule_its_rests : PySem.W.specialIn K (.ref p_Rule_its_rests) "__get__" = some (some (.builtin "member_descriptor.__get__")))
    (s3_Rule_its_rests : PySem.W.takesIn K (.ref p_Rule_its_rests) = some true)
    (s4_Rule_its_rests : PySem.W.typeIn K (.ref p_Rule_its_rests) = some (.type "member_descriptor"))
    (s5_Rule_its_rests : PySem.W.slotIn K p_Rule_its_rests C_Rule = some 0)
    (s1_Rule_its_table : PySem.W.findIn K (.ref C_Rule) "its_table" = some (some (.ref p_Rule_its_table)))
    (s2_Rule_its_table : PySem.W.specialIn K (.ref p_Rule_its_table) "__get__" = some (some (.builtin "member_descriptor.__get__")))
    (s3_Rule_its_table : PySem.W.takesIn K (.ref p_Rule_its_table) = some true)
    (s4_Rule_its_table : PySem.W.typeIn K (.ref p_Rule_its_table) = some (.type "member_descriptor"))
    (s5_Rule_its_table : PySem.W.slotIn K p_Rule_its_table C_Rule = some 1)
    (w_MOST_RESTS : PySem.W.nsIn K mainGlobals "MOST_RESTS" = some (some (.int 2 t_MOST_RESTS)))
    (w_SIGNS : PySem.W.nsIn K mainGlobals "SIGNS" = some (some (.str ⟨[48, 49, 50, 51].toArray⟩ t_SIGNS)))
    (z_abs : PySem.W.nsIn K mainGlobals "abs" = some none)
    (z_all : PySem.W.nsIn K mainGlobals "all" = some none)
    (z_bool : PySem.W.nsIn K mainGlobals "bool" = some none)
    (z_enumerate : PySem.W.nsIn K mainGlobals "enumerate" = some none)
    (z_int : PySem.W.nsIn K mainGlobals "int" = some none)
    (z_isinstance : PySem.W.nsIn K mainGlobals "isinstance" = some none)
    (z_len : PySem.W.nsIn K mainGlobals "len" = some none)
    (z_max : PySem.W.nsIn K mainGlobals "max" = some none)
    (z_range : PySem.W.nsIn K mainGlobals "range" = some none)
    (z_sorted : PySem.W.nsIn K mainGlobals "sorted" = some none)
    (z_str : PySem.W.nsIn K mainGlobals "str" = some none)
    : ∃ fd : FuncData, (∀ (s : Shared) (u : Value), BindsTo s fd ⟨[u], []⟩ [("_law_script", u)]) ∧ ∀ base : Heap, K.In base → base.Ns mainGlobals mg → FnG l.prog w K mg base 8 fa fd ["_law_script"] (spLaw K) := by
  have e := (Value.ref.inj (Option.some.inj (hfa.symm.trans (PySem.W.mg_of X G a22)))).symm
  subst e
  have T : Txt K mg ⟨f0, PySem.W.fnOf "_law_bag" "_law_bag" (defArgs s__law_bag) (defBody s__law_bag) (defScope s__law_bag) .none kV0 dc0 pm0 an0 cd0 ct0, f1, PySem.W.fnOf "_law_take" "_law_take" (defArgs s__law_take) (defBody s__law_take) (defScope s__law_take) .none kV1 dc1 pm1 an1 cd1 ct1, f2, PySem.W.fnOf "is_row" "is_row" (defArgs s_is_row) (defBody s_is_row) (defScope s_is_row) .none kV2 dc2 pm2 an2 cd2 ct2, f3, PySem.W.fnOf "is_table" "is_table" (defArgs s_is_table) (defBody s_is_table) (defScope s_is_table) .none kV3 dc3 pm3 an3 cd3 ct3, f4, PySem.W.fnOf "is_integer" "is_integer" (defArgs s_is_integer) (defBody s_is_integer) (defScope s_is_integer) .none kV4 dc4 pm4 an4 cd4 ct4, f5, PySem.W.fnOf "__init__" "Rule.__init__" (defArgs s_Rule___init__) (defBody s_Rule___init__) (defScope s_Rule___init__) (.ref T5) kV5 dc5 pm5 an5 cd5 ct5, f6, PySem.W.fnOf "all_of" "Rule.all_of" (defArgs s_Rule_all_of) (defBody s_Rule_all_of) (defScope s_Rule_all_of) .none kV6 dc6 pm6 an6 cd6 ct6, f7, PySem.W.fnOf "table" "Rule.table" (defArgs s_Rule_table) (defBody s_Rule_table) (defScope s_Rule_table) .none kV7 dc7 pm7 an7 cd7 ct7, f8, PySem.W.fnOf "sign_after" "sign_after" (defArgs s_sign_after) (defBody s_sign_after) (defScope s_sign_after) .none kV8 dc8 pm8 an8 cd8 ct8, f9, PySem.W.fnOf "row_after_beat" "row_after_beat" (defArgs s_row_after_beat) (defBody s_row_after_beat) (defScope s_row_after_beat) .none kV9 dc9 pm9 an9 cd9 ct9, f10, PySem.W.fnOf "signs" "Rule.signs" (defArgs s_Rule_signs) (defBody s_Rule_signs) (defScope s_Rule_signs) .none kV10 dc10 pm10 an10 cd10 ct10, f11, PySem.W.fnOf "ring_after" "Rule.ring_after" (defArgs s_Rule_ring_after) (defBody s_Rule_ring_after) (defScope s_Rule_ring_after) .none kV11 dc11 pm11 an11 cd11 ct11, f12, PySem.W.fnOf "path_of" "path_of" (defArgs s_path_of) (defBody s_path_of) (defScope s_path_of) .none kV12 dc12 pm12 an12 cd12 ct12, f13, PySem.W.fnOf "is_still" "Rule.is_still" (defArgs s_Rule_is_still) (defBody s_Rule_is_still) (defScope s_Rule_is_still) .none kV13 dc13 pm13 an13 cd13 ct13, f14, PySem.W.fnOf "still_from" "still_from" (defArgs s_still_from) (defBody s_still_from) (defScope s_still_from) .none kV14 dc14 pm14 an14 cd14 ct14, f15, PySem.W.fnOf "all_stands" "all_stands" (defArgs s_all_stands) (defBody s_all_stands) (defScope s_all_stands) .none kV15 dc15 pm15 an15 cd15 ct15, f16, PySem.W.fnOf "quiet_tables" "quiet_tables" (defArgs s_quiet_tables) (defBody s_quiet_tables) (defScope s_quiet_tables) .none kV16 dc16 pm16 an16 cd16 ct16, f17, PySem.W.fnOf "fate_of" "fate_of" (defArgs s_fate_of) (defBody s_fate_of) (defScope s_fate_of) .none kV17 dc17 pm17 an17 cd17 ct17, f18, PySem.W.fnOf "after" "after" (defArgs s_after) (defBody s_after) (defScope s_after) .none kV18 dc18 pm18 an18 cd18 ct18, f19, PySem.W.fnOf "_law_stays_alive" "_law_stays_alive" (defArgs s__law_stays_alive) (defBody s__law_stays_alive) (defScope s__law_stays_alive) .none kV19 dc19 pm19 an19 cd19 ct19, f20, PySem.W.fnOf "mirrored" "Rule.mirrored" (defArgs s_Rule_mirrored) (defBody s_Rule_mirrored) (defScope s_Rule_mirrored) .none kV20 dc20 pm20 an20 cd20 ct20, f21, PySem.W.fnOf "_law_right" "_law_right" (defArgs s__law_right) (defBody s__law_right) (defScope s__law_right) .none kV21 dc21 pm21 an21 cd21 ct21, f22, PySem.W.fnOf "law" "law" (defArgs s_law) (defBody s_law) (defScope s_law) .none kV22 dc22 pm22 an22 cd22 ct22, C_Rule, p_Rule_its_rests, p_Rule_its_table, g_Rule_all_of, g_Rule_table, g_Rule_signs⟩ :=
    ⟨⟨fun_mk (st := s__law_bag) l0 c0 k0, (fun_mk (st := s__law_bag) l0 c0 k0).binds (ps := ["_law_script"]) fun _ _ _ _ _ _ us hl => match us, hl with | [_], _ => rfl, PySem.W.mg_of X G a0⟩,
    ⟨fun_mk (st := s__law_take) l1 c1 k1, (fun_mk (st := s__law_take) l1 c1 k1).binds (ps := ["_law_bag_here", "_law_many"]) fun _ _ _ _ _ _ us hl => match us, hl with | [_, _], _ => rfl, PySem.W.mg_of X G a1⟩,
    ⟨fun_mk (st := s_is_row) l2 c2 k2, (fun_mk (st := s_is_row) l2 c2 k2).binds (ps := ["thing", "signs"]) fun _ _ _ _ _ _ us hl => match us, hl with | [_, _], _ => rfl, PySem.W.mg_of X G a2⟩,
    ⟨fun_mk (st := s_is_table) l3 c3 k3, (fun_mk (st := s_is_table) l3 c3 k3).binds (ps := ["thing"]) fun _ _ _ _ _ _ us hl => match us, hl with | [_], _ => rfl, PySem.W.mg_of X G a3⟩,
    ⟨fun_mk (st := s_is_integer) l4 c4 k4, (fun_mk (st := s_is_integer) l4 c4 k4).binds (ps := ["thing"]) fun _ _ _ _ _ _ us hl => match us, hl with | [_], _ => rfl, PySem.W.mg_of X G a4⟩,
    ⟨funV_mk (st := s_Rule___init__) l5 c5 k5, bindsV d5 rfl (fun us hl => match us, hl with | [_, _, _], _ => ⟨_, rfl, rfl⟩), ⟨e5, a5, b5, h5⟩⟩,
    ⟨fun_mk (st := s_Rule_all_of) l6 c6 k6, (fun_mk (st := s_Rule_all_of) l6 c6 k6).binds (ps := ["rests"]) fun _ _ _ _ _ _ us hl => match us, hl with | [_], _ => rfl, ⟨b6, e6, a6, ⟨_, h6⟩, k6⟩⟩,
    ⟨fun_mk (st := s_Rule_table) l7 c7 k7, (fun_mk (st := s_Rule_table) l7 c7 k7).binds (ps := ["self"]) fun _ _ _ _ _ _ us hl => match us, hl with | [_], _ => rfl, ⟨a7, b7, e7, ⟨_, h7⟩⟩⟩,
    ⟨fun_mk (st := s_sign_after) l8 c8 k8, (fun_mk (st := s_sign_after) l8 c8 k8).binds (ps := ["table", "last", "left", "seat", "right"]) fun _ _ _ _ _ _ us hl => match us, hl with | [_, _, _, _, _], _ => rfl, PySem.W.mg_of X G a8⟩,
    ⟨fun_mk (st := s_row_after_beat) l9 c9 k9, (fun_mk (st := s_row_after_beat) l9 c9 k9).binds (ps := ["table", "last", "row"]) fun _ _ _ _ _ _ us hl => match us, hl with | [_, _, _], _ => rfl, PySem.W.mg_of X G a9⟩,
    ⟨fun_mk (st := s_Rule_signs) l10 c10 k10, (fun_mk (st := s_Rule_signs) l10 c10 k10).binds (ps := ["self"]) fun _ _ _ _ _ _ us hl => match us, hl with | [_], _ => rfl, ⟨a10, b10, e10, ⟨_, h10⟩⟩⟩,
    ⟨fun_mk (st := s_Rule_ring_after) l11 c11 k11, (fun_mk (st := s_Rule_ring_after) l11 c11 k11).binds (ps := ["self", "text"]) fun _ _ _ _ _ _ us hl => match us, hl with | [_, _], _ => rfl, ⟨a11, b11, k11⟩⟩,
    ⟨fun_mk (st := s_path_of) l12 c12 k12, (fun_mk (st := s_path_of) l12 c12 k12).binds (ps := ["rule", "text"]) fun _ _ _ _ _ _ us hl => match us, hl with | [_, _], _ => rfl, PySem.W.mg_of X G a12⟩,
    ⟨fun_mk (st := s_Rule_is_still) l13 c13 k13, (fun_mk (st := s_Rule_is_still) l13 c13 k13).binds (ps := ["self", "text"]) fun _ _ _ _ _ _ us hl => match us, hl with | [_, _], _ => rfl, ⟨a13, b13, k13⟩⟩,
    ⟨fun_mk (st := s_still_from) l14 c14 k14, (fun_mk (st := s_still_from) l14 c14 k14).binds (ps := ["rule", "text"]) fun _ _ _ _ _ _ us hl => match us, hl with | [_, _], _ => rfl, PySem.W.mg_of X G a14⟩,
    ⟨fun_mk (st := s_all_stands) l15 c15 k15, (fun_mk (st := s_all_stands) l15 c15 k15).binds (ps := ["signs", "size"]) fun _ _ _ _ _ _ us hl => match us, hl with | [_, _], _ => rfl, PySem.W.mg_of X G a15⟩,
    ⟨fun_mk (st := s_quiet_tables) l16 c16 k16, (fun_mk (st := s_quiet_tables) l16 c16 k16).binds (ps := ["rests", "size"]) fun _ _ _ _ _ _ us hl => match us, hl with | [_, _], _ => rfl, PySem.W.mg_of X G a16⟩,
    ⟨fun_mk (st := s_fate_of) l17 c17 k17, (fun_mk (st := s_fate_of) l17 c17 k17).binds (ps := ["rule", "text"]) fun _ _ _ _ _ _ us hl => match us, hl with | [_, _], _ => rfl, PySem.W.mg_of X G a17⟩,
    ⟨fun_mk (st := s_after) l18 c18 k18, (fun_mk (st := s_after) l18 c18 k18).binds (ps := ["rule", "text", "many"]) fun _ _ _ _ _ _ us hl => match us, hl with | [_, _, _], _ => rfl, PySem.W.mg_of X G a18⟩,
    ⟨fun_mk (st := s__law_stays_alive) l19 c19 k19, (fun_mk (st := s__law_stays_alive) l19 c19 k19).binds (ps := ["_law_rule", "_law_size"]) fun _ _ _ _ _ _ us hl => match us, hl with | [_, _], _ => rfl, PySem.W.mg_of X G a19⟩,
    ⟨fun_mk (st := s_Rule_mirrored) l20 c20 k20, (fun_mk (st := s_Rule_mirrored) l20 c20 k20).binds (ps := ["self"]) fun _ _ _ _ _ _ us hl => match us, hl with | [_], _ => rfl, ⟨a20, b20, k20⟩⟩,
    ⟨fun_mk (st := s__law_right) l21 c21 k21, (fun_mk (st := s__law_right) l21 c21 k21).binds (ps := ["_law_rests", "_law_size"]) fun _ _ _ _ _ _ us hl => match us, hl with | [_, _], _ => rfl, PySem.W.mg_of X G a21⟩,
    ⟨fun_mk (st := s_law) l22 c22 k22, (fun_mk (st := s_law) l22 c22 k22).binds (ps := ["_law_script"]) fun _ _ _ _ _ _ us hl => match us, hl with | [_], _ => rfl, PySem.W.mg_of X G a22⟩,
    ⟨q1_Rule, PySem.W.mg_of X G q1_Rule, ⟨q2_Rule, q3_Rule, q4_Rule, q5_Rule⟩⟩,
    ⟨s1_Rule_its_rests, s2_Rule_its_rests, s3_Rule_its_rests, s4_Rule_its_rests, s5_Rule_its_rests, by decide⟩,
    ⟨s1_Rule_its_table, s2_Rule_its_table, s3_Rule_its_table, s4_Rule_its_table, s5_Rule_its_table, by decide⟩,
    ⟨_, PySem.W.mg_of X G w_MOST_RESTS⟩,
    ⟨_, PySem.W.mg_of X G w_SIGNS⟩,
    PySem.W.mg_none_of X G z_abs,
    PySem.W.mg_none_of X G z_all,
    PySem.W.mg_none_of X G z_bool,
    PySem.W.mg_none_of X G z_enumerate,
    PySem.W.mg_none_of X G z_int,
    PySem.W.mg_none_of X G z_isinstance,
    PySem.W.mg_none_of X G z_len,
    PySem.W.mg_none_of X G z_max,
    PySem.W.mg_none_of X G z_range,
    PySem.W.mg_none_of X G z_sorted,
    PySem.W.mg_none_of X G z_str⟩
  exact ⟨_, fun s v => .of_eq rfl, fun base _ _ => ok_law T math⟩
end LW
open PySem PySem.W PyProof.Rows
set_option maxRecDepth 100000 in
set_option maxHeartbeats 0 in
theorem PySem.Challenge.cw_standwaves_k76_whole_quiet_sizes_holds : PySem.Challenge.rw_standwaves_k76_whole_quiet_sizes.Holds := by
  w_on; o_law; k_head; (case hw => w_witness2)
  k_fill
  refine DL.walk_g (l := PySem.Challenge.rw_standwaves_k76_whole_quiet_sizes) (k := 8) (x := "_law_script") rfl rfl ⟨rfl, by decide, by decide⟩ (fun w h Y => PySem.W.kIn_of Y) ?F
  case F =>
    intro w mg fa h KX G hmg
    refine' LW.all_mk KX G hmg ?q1_Rule ?q2_Rule ?q3_Rule ?q4_Rule ?q5_Rule ?a0 ?l0 ?c0 ?k0 ?a1 ?l1 ?c1 ?k1 ?a2 ?l2 ?c2 ?k2 ?a3 ?l3 ?c3 ?k3 ?a4 ?l4 ?c4 ?k4 ?a5 ?b5 ?e5 ?h5 ?l5 ?d5 ?c5 ?k5 ?a6 ?b6 ?e6 ?h6 ?l6 ?c6 ?k6 ?a7 ?b7 ?e7 ?h7 ?l7 ?c7 ?k7 ?a8 ?l8 ?c8 ?k8 ?a9 ?l9 ?c9 ?k9 ?a10 ?b10 ?e10 ?h10 ?l10 ?c10 ?k10 ?a11 ?b11 ?l11 ?c11 ?k11 ?a12 ?l12 ?c12 ?k12 ?a13 ?b13 ?l13 ?c13 ?k13 ?a14 ?l14 ?c14 ?k14 ?a15 ?l15 ?c15 ?k15 ?a16 ?l16 ?c16 ?k16 ?a17 ?l17 ?c17 ?k17 ?a18 ?l18 ?c18 ?k18 ?a19 ?l19 ?c19 ?k19 ?a20 ?b20 ?l20 ?c20 ?k20 ?a21 ?l21 ?c21 ?k21 ?a22 ?l22 ?c22 ?k22 ?s1_Rule_its_rests ?s2_Rule_its_rests ?s3_Rule_its_rests ?s4_Rule_its_rests ?s5_Rule_its_rests ?s1_Rule_its_table ?s2_Rule_its_table ?s3_Rule_its_table ?s4_Rule_its_table ?s5_Rule_its_table ?w_MOST_RESTS ?w_SIGNS ?z_abs ?z_all ?z_bool ?z_enumerate ?z_int ?z_isinstance ?z_len ?z_max ?z_range ?z_sorted ?z_str
    (case q1_Rule => k_is)
    (case q2_Rule => k_is)
    (case q3_Rule => k_is)
    (case q4_Rule => k_is)
    (case q5_Rule => k_is)
    (case a0 => k_is)
    (case l0 => k_is)
    (case c0 => k_is)
    (case k0 => k_is)
    (case a1 => k_is)
    (case l1 => k_is)
    (case c1 => k_is)
    (case k1 => k_is)
    (case a2 => k_is)
    (case l2 => k_is)
    (case c2 => k_is)
    (case k2 => k_is)
    (case a3 => k_is)
    (case l3 => k_is)
    (case c3 => k_is)
    (case k3 => k_is)
    (case a4 => k_is)
    (case l4 => k_is)
    (case c4 => k_is)
    (case k4 => k_is)
    (case a5 => k_is)
    (case b5 => k_is)
    (case e5 => k_is)
    (case h5 => k_is)
    (case l5 => k_is)
    (case d5 => k_is)
    (case c5 => k_is)
    (case k5 => k_is)
    (case a6 => k_is)
    (case b6 => k_is)
    (case e6 => k_is)
    (case h6 => k_is)
    (case l6 => k_is)
    (case c6 => k_is)
    (case k6 => k_is)
    (case a7 => k_is)
    (case b7 => k_is)
    (case e7 => k_is)
    (case h7 => k_is)
    (case l7 => k_is)
    (case c7 => k_is)
    (case k7 => k_is)
    (case a8 => k_is)
    (case l8 => k_is)
    (case c8 => k_is)
    (case k8 => k_is)
    (case a9 => k_is)
    (case l9 => k_is)
    (case c9 => k_is)
    (case k9 => k_is)
    (case a10 => k_is)
    (case b10 => k_is)
    (case e10 => k_is)
    (case h10 => k_is)
    (case l10 => k_is)
    (case c10 => k_is)
    (case k10 => k_is)
    (case a11 => k_is)
    (case b11 => k_is)
    (case l11 => k_is)
    (case c11 => k_is)
    (case k11 => k_is)
    (case a12 => k_is)
    (case l12 => k_is)
    (case c12 => k_is)
    (case k12 => k_is)
    (case a13 => k_is)
    (case b13 => k_is)
    (case l13 => k_is)
    (case c13 => k_is)
    (case k13 => k_is)
    (case a14 => k_is)
    (case l14 => k_is)
    (case c14 => k_is)
    (case k14 => k_is)
    (case a15 => k_is)
    (case l15 => k_is)
    (case c15 => k_is)
    (case k15 => k_is)
    (case a16 => k_is)
    (case l16 => k_is)
    (case c16 => k_is)
    (case k16 => k_is)
    (case a17 => k_is)
    (case l17 => k_is)
    (case c17 => k_is)
    (case k17 => k_is)
    (case a18 => k_is)
    (case l18 => k_is)
    (case c18 => k_is)
    (case k18 => k_is)
    (case a19 => k_is)
    (case l19 => k_is)
    (case c19 => k_is)
    (case k19 => k_is)
    (case a20 => k_is)
    (case b20 => k_is)
    (case l20 => k_is)
    (case c20 => k_is)
    (case k20 => k_is)
    (case a21 => k_is)
    (case l21 => k_is)
    (case c21 => k_is)
    (case k21 => k_is)
    (case a22 => k_is)
    (case l22 => k_is)
    (case c22 => k_is)
    (case k22 => k_is)
    (case s1_Rule_its_rests => k_is)
    (case s2_Rule_its_rests => k_is)
    (case s3_Rule_its_rests => k_is)
    (case s4_Rule_its_rests => k_is)
    (case s5_Rule_its_rests => k_is)
    (case s1_Rule_its_table => k_is)
    (case s2_Rule_its_table => k_is)
    (case s3_Rule_its_table => k_is)
    (case s4_Rule_its_table => k_is)
    (case s5_Rule_its_table => k_is)
    (case w_MOST_RESTS => k_is)
    (case w_SIGNS => k_is)
    (case z_abs => k_is)
    (case z_all => k_is)
    (case z_bool => k_is)
    (case z_enumerate => k_is)
    (case z_int => k_is)
    (case z_isinstance => k_is)
    (case z_len => k_is)
    (case z_max => k_is)
    (case z_range => k_is)
    (case z_sorted => k_is)
    (case z_str => k_is)
