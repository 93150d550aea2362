import PyProof.Rows.All
import Wide.All
import OpenK.AllK
import Wide.FinOn
import HandS.ForMost
import HandS.Slots
import HandS.Style
import HandS.Codes
import PySem.Challenge.RW_standwaves_k21_places_and_windows
set_option Elab.async false
set_option maxRecDepth 100000
set_option autoImplicit false
set_option maxHeartbeats 4000000
namespace DL
open PySem L2
/-! ### data without a heap -/
inductive D where
  | non | bl (b : Bool) | int (i : Int) | str (x : List Nat) | lst (xs : List D) | tup (xs : List D) | dct (ks : List Key) (vs : List D) | obj (C : Addr) (fs : List D) | bag (p : Addr) | scr (ns : List Int)
def D.flat : D → Bool
  | .lst _ => false | .tup _ => false | .dct _ _ => false | .obj _ _ => false | .scr _ => false | _ => true
mutual
inductive Rp (K : PySem.W.Frag) (G : Hp) : V → D → Prop
  | non : Rp K G .non .non
  | bl (b : Bool) : Rp K G (.bl b) (.bl b)
  | int (i : Int) : Rp K G (.int i) (.int i)
  | str (x : List Nat) : Rp K G (.str ⟨x.toArray⟩) (.str x)
  | lst {a : Addr} {vs : List V} {ds : List D} : G a = some (.lst vs) → RpL K G vs ds → Rp K G (.ref a) (.lst ds)
  | tup {a : Addr} {vs : List V} {ds : List D} : SqT K G a vs → RpL K G vs ds → Rp K G (.ref a) (.tup ds)
  | dct {a : Addr} {ks : List Key} {vs : List V} {ds : List D} : G a = some (.dK (ks.zip vs)) → ks.length = vs.length → RpL K G vs ds → Rp K G (.ref a) (.dct ks ds)
  | obj {a C dx : Addr} {vs : List V} {ds : List D} : G a = some (SlX.SlO a C dx (vs.map some)) → G dx = some (.xd []) → RpL K G vs ds → Rp K G (.ref a) (.obj C ds)
  | bag (p : Addr) : Rp K G (.ref p) (.bag p)
  | scr {a : Addr} {ns : List Int} : SqL K G a (ns.map V.int) → Rp K G (.ref a) (.scr ns)
inductive RpL (K : PySem.W.Frag) (G : Hp) : List V → List D → Prop
  | nil : RpL K G [] []
  | cons {v : V} {vs : List V} {d : D} {ds : List D} : Rp K G v d → RpL K G vs ds → RpL K G (v :: vs) (d :: ds)
end
theorem Same.sqt {K : PySem.W.Frag} {H H' : Hp} {a : Addr} {xs : List V} (e : Same H H') (h : SqT K H a xs) : SqT K H' a xs := by
  rcases h with (h | ⟨o, h⟩) | h
  · exact .inl (.inl (e _ _ h))
  · exact .inl (.inr ⟨o, e _ _ h⟩)
  · exact .inr h
mutual
theorem Rp.mono {K : PySem.W.Frag} {G G' : Hp} (e : Same G G') : ∀ {v : V} {d : D}, Rp K G v d → Rp K G' v d
  | _, _, .non => .non
  | _, _, .bl b => .bl b
  | _, _, .int i => .int i
  | _, _, .str x => .str x
  | _, _, .lst h r => .lst (e _ _ h) (RpL.mono e r)
  | _, _, .tup h r => .tup (Same.sqt e h) (RpL.mono e r)
  | _, _, .dct h l r => .dct (e _ _ h) l (RpL.mono e r)
  | _, _, .obj h h2 r => .obj (e _ _ h) (e _ _ h2) (RpL.mono e r)
  | _, _, .bag p => .bag p
  | _, _, .scr h => .scr (Same.seq e h)
theorem RpL.mono {K : PySem.W.Frag} {G G' : Hp} (e : Same G G') : ∀ {vs : List V} {ds : List D}, RpL K G vs ds → RpL K G' vs ds
  | _, _, .nil => .nil
  | _, _, .cons a b => .cons (Rp.mono e a) (RpL.mono e b)
end
theorem Rp.flat_any {K : PySem.W.Frag} {G G' : Hp} {v : V} {d : D} (h : Rp K G v d) (f : d.flat = true) : Rp K G' v d := by
  cases h with
  | non => exact .non
  | bl b => exact .bl b
  | int i => exact .int i
  | str x => exact .str x
  | bag p => exact .bag p
  | lst h r => cases f
  | tup h r => cases f
  | dct h l r => cases f
  | obj h h2 r => cases f
  | scr h => cases f
theorem RpL.flat_any {K : PySem.W.Frag} {G G' : Hp} : ∀ {vs : List V} {ds : List D}, RpL K G vs ds → ds.all D.flat = true → RpL K G' vs ds
  | _, _, .nil, _ => .nil
  | _, _, .cons a b, f => by
    simp only [List.all_cons, Bool.and_eq_true] at f
    exact .cons (a.flat_any f.1) (RpL.flat_any b f.2)
theorem RpL.length {K : PySem.W.Frag} {G : Hp} : ∀ {vs : List V} {ds : List D}, RpL K G vs ds → vs.length = ds.length
  | _, _, .nil => rfl
  | _, _, .cons _ b => by simp [RpL.length b]
theorem RpL.get {K : PySem.W.Frag} {G : Hp} : ∀ {vs : List V} {ds : List D} {i : Nat} {d : D}, RpL K G vs ds → ds[i]? = some d → ∃ v, vs[i]? = some v ∧ Rp K G v d
  | _, _, _, _, .nil, h => by simp at h
  | _, _, 0, _, .cons a _, h => by simp at h; subst h; exact ⟨_, rfl, a⟩
  | _, _, i + 1, d, .cons _ b, h => by
    obtain ⟨v, h1, h2⟩ := RpL.get (i := i) (d := d) b (by simpa using h)
    exact ⟨v, by simpa using h1, h2⟩
theorem RpL.append {K : PySem.W.Frag} {G : Hp} : ∀ {vs ws : List V} {ds es : List D}, RpL K G vs ds → RpL K G ws es → RpL K G (vs ++ ws) (ds ++ es)
  | _, _, _, _, .nil, h => h
  | _, _, _, _, .cons a b, h => .cons a (RpL.append b h)
theorem RpL.drop {K : PySem.W.Frag} {G : Hp} : ∀ {vs : List V} {ds : List D} (n : Nat), RpL K G vs ds → RpL K G (vs.drop n) (ds.drop n)
  | _, _, 0, h => h
  | _, _, _ + 1, .nil => .nil
  | _, _, n + 1, .cons _ b => RpL.drop n b
theorem RpL.take {K : PySem.W.Frag} {G : Hp} : ∀ {vs : List V} {ds : List D} (n : Nat), RpL K G vs ds → RpL K G (vs.take n) (ds.take n)
  | _, _, 0, _ => .nil
  | _, _, _ + 1, .nil => .nil
  | _, _, n + 1, .cons a b => .cons a (RpL.take n b)
/-! ### the bag, and partial functions with a bag -/
structure Bg where
  p : Addr
  q : Addr
  z0 : Int
  z1 : Int
  z2 : Int
  cs : List Int
abbrev Bs := Option Bg
def Bs.at : Bs → Option Addr
  | none => none
  | some g => some g.p
def BagOk (G H : Hp) : Bs → Prop
  | none => True
  | some g => G g.p = none ∧ H g.p = some (.lst [.int g.z0, .int g.z1, .int g.z2, .ref g.q]) ∧ G g.q = some (.lst (g.cs.map V.int))
def Bs.like : Bs → Bs → Prop
  | none, none => True
  | some g, some h => g.p = h.p ∧ g.q = h.q ∧ g.cs = h.cs
  | _, _ => False
theorem Bs.like_refl : ∀ b : Bs, b.like b
  | none => trivial
  | some _ => ⟨rfl, rfl, rfl⟩
theorem Bs.like_trans : ∀ {a b c : Bs}, a.like b → b.like c → a.like c
  | none, none, none, _, _ => trivial
  | some _, some _, some _, h, k => ⟨h.1.trans k.1, h.2.1.trans k.2.1, h.2.2.trans k.2.2⟩
  | none, none, some _, _, k => k.elim
  | none, some _, _, h, _ => h.elim
  | some _, none, _, h, _ => h.elim
  | some _, some _, none, _, k => k.elim
theorem Bs.like_at : ∀ {a b : Bs}, a.like b → a.at = b.at
  | none, none, _ => rfl
  | some _, some _, h => by show some _ = some _; rw [h.1]
  | none, some _, h => h.elim
  | some _, none, h => h.elim
abbrev M (α : Type) := Bs → Option (α × Bs)
def M.ret {α : Type} (a : α) : M α := fun b => some (a, b)
def M.bind {α β : Type} (m : M α) (f : α → M β) : M β := fun b => match m b with | some (a, b') => f a b' | none => none
def M.fail {α : Type} : M α := fun _ => none
def M.of {α : Type} : Option α → M α
  | some a => M.ret a
  | none => M.fail
def M.guard {α : Type} (c : Bool) (m : M α) : M α := if c = true then m else M.fail
theorem M.bind_some {α β : Type} {m : M α} {f : α → M β} {b : Bs} {r : β × Bs} (h : M.bind m f b = some r) : ∃ a b', m b = some (a, b') ∧ f a b' = some r := by
  unfold M.bind at h
  split at h
  · exact ⟨_, _, by assumption, h⟩
  · cases h
theorem M.bind_eq {α β : Type} {m : M α} {f : α → M β} {b b' : Bs} {a : α} (h : m b = some (a, b')) : M.bind m f b = f a b' := by
  unfold M.bind
  rw [h]
@[simp] theorem M.ret_bind {α β : Type} (a : α) (f : α → M β) : M.bind (M.ret a) f = f a := rfl
@[simp] theorem M.fail_bind {α β : Type} (f : α → M β) : M.bind M.fail f = M.fail := rfl
@[simp] theorem M.bind_ret {α : Type} (m : M α) : M.bind m M.ret = m := by
  funext b; unfold M.bind M.ret; cases h : m b with
  | none => rfl
  | some r => rfl
@[simp] theorem M.bind_assoc {α β γ : Type} (m : M α) (f : α → M β) (g : β → M γ) : M.bind (M.bind m f) g = M.bind m fun a => M.bind (f a) g := by
  funext b; unfold M.bind; cases h : m b with
  | none => rfl
  | some r => rfl
@[simp] theorem M.guard_true {α : Type} (m : M α) : M.guard true m = m := rfl
theorem M.guard_of {α : Type} {c : Bool} {m : M α} (h : c = true) : M.guard c m = m := if_pos h
@[simp] theorem M.of_some {α : Type} (a : α) : M.of (some a) = M.ret a := rfl
/-! ### what a step leaves -/
structure Nxt (G H : Hp) (b : Bs) (G' H' : Hp) (b' : Bs) : Prop where
  gg : Same G G'
  fz : Same G' H'
  keep : ∀ a o, H a = some o → b.at ≠ some a → H' a = some o
  new : ∀ a o, H a = some o → G a = none → G' a = none
  bag : BagOk G' H' b'
  like : b.like b'
theorem Nxt.refl {G H : Hp} {b : Bs} (f : Same G H) (o : BagOk G H b) : Nxt G H b G H b := ⟨fun _ _ h => h, f, fun _ _ h _ => h, fun _ _ _ h => h, o, b.like_refl⟩
theorem Nxt.trans {G H G1 H1 G2 H2 : Hp} {b b1 b2 : Bs} (x : Nxt G H b G1 H1 b1) (y : Nxt G1 H1 b1 G2 H2 b2) : Nxt G H b G2 H2 b2 where
  gg := fun a o h => y.gg a o (x.gg a o h)
  fz := y.fz
  keep := fun a o h n => y.keep a o (x.keep a o h n) (by rw [← Bs.like_at x.like]; exact n)
  new := fun a o h n => by
    by_cases e : b.at = some a
    · have l := Bs.like_trans x.like y.like
      have e2 : b2.at = some a := by rw [← Bs.like_at l]; exact e
      have ob := y.bag
      cases b2 with
      | none => cases e2
      | some g => cases e2; exact ob.1
    · exact y.new a o (x.keep a o h e) (x.new a o h n)
  bag := y.bag
  like := Bs.like_trans x.like y.like
/-- a new object, frozen at once -/
theorem Nxt.newF {G H : Hp} {b : Bs} {p : Addr} {o : HO} (f : Same G H) (ob : BagOk G H b) (hp : H p = none) : Nxt G H b (upd G p o) (upd H p o) b := by
  have gp : G p = none := by
    cases e : G p with
    | none => rfl
    | some u => rw [f p u e] at hp; cases hp
  refine ⟨fun a u h => ?_, fun a u h => ?_, fun a u h _ => ?_, fun a u h n => ?_, ?_, b.like_refl⟩
  · rw [upd_ne (ne_of_none h gp)]; exact h
  · by_cases e : a = p
    · subst e; rw [upd_same] at h ⊢; exact h
    · rw [upd_ne e] at h ⊢; exact f a u h
  · rw [upd_ne (ne_of_none h hp)]; exact h
  · rw [upd_ne (ne_of_none h hp)]; exact n
  · cases b with
    | none => trivial
    | some g =>
      obtain ⟨h1, h2, h3⟩ := ob
      refine ⟨?_, ?_, ?_⟩
      · rw [upd_ne (ne_of_none h2 hp)]; exact h1
      · rw [upd_ne (ne_of_none h2 hp)]; exact h2
      · rw [upd_ne (ne_of_none h3 gp)]; exact h3
/-- a new object, not frozen -/
theorem Nxt.newH {G H : Hp} {b : Bs} {p : Addr} {o : HO} (f : Same G H) (ob : BagOk G H b) (hp : H p = none) : Nxt G H b G (upd H p o) b := by
  refine ⟨fun a u h => h, fun a u h => ?_, fun a u h _ => ?_, fun a u h n => n, ?_, b.like_refl⟩
  · rw [upd_ne (ne_of_none (f a u h) hp)]; exact f a u h
  · rw [upd_ne (ne_of_none h hp)]; exact h
  · cases b with
    | none => trivial
    | some g =>
      obtain ⟨h1, h2, h3⟩ := ob
      refine ⟨h1, ?_, h3⟩
      rw [upd_ne (ne_of_none h2 hp)]; exact h2
theorem gnone {G H : Hp} {p : Addr} (f : Same G H) (hp : H p = none) : G p = none := by
  cases e : G p with
  | none => rfl
  | some u => rw [f p u e] at hp; cases hp
/-! ### readings by functions -/
abbrev Env := List (Option D)
structure RS (K : PySem.W.Frag) (G : Hp) (σ : L2.St) (ρ : Env) : Prop where
  len : ρ.length ≤ σ.length
  get : ∀ (i : Nat) (d : D), ρ[i]? = some (some d) → ∃ v, σ[i]? = some (some v) ∧ Rp K G v d
theorem RS.mono {K : PySem.W.Frag} {G G' : Hp} {σ : L2.St} {ρ : Env} (e : Same G G') (h : RS K G σ ρ) : RS K G' σ ρ := ⟨h.len, fun i d q => by
  obtain ⟨v, h1, h2⟩ := h.get i d q
  exact ⟨v, h1, h2.mono e⟩⟩
theorem bag_ne {G H : Hp} {b : Bs} {p : Addr} (ob : BagOk G H b) (hp : H p = none) : b.at ≠ some p := by
  intro z
  cases b with
  | none => cases z
  | some g => cases z; rw [ob.2.1] at hp; cases hp
/-- an object that was not there ahead is changed -/
theorem Nxt.mut {G H G' H' : Hp} {b b' : Bs} {p : Addr} {o : HO} (n : Nxt G H b G' H' b') (ob : BagOk G H b) (hp : H p = none) (gp : G' p = none) : Nxt G H b G' (upd H' p o) b' := by
  have nb : b'.at ≠ some p := by rw [← Bs.like_at n.like]; exact bag_ne ob hp
  refine ⟨n.gg, fun a u h => ?_, fun a u h hb => ?_, n.new, ?_, n.like⟩
  · rw [upd_ne (ne_of_none h gp)]; exact n.fz a u h
  · rw [upd_ne (ne_of_none h hp)]; exact n.keep a u h hb
  · have ob' := n.bag
    cases b' with
    | none => trivial
    | some g =>
      refine ⟨ob'.1, ?_, ob'.2.2⟩
      rw [upd_ne fun z => nb (by rw [← z]; rfl)]
      exact ob'.2.1
def tF (K : PySem.W.Frag) (f : Env → M D) : TE := fun σ H Q => ∃ ρ G b d b', RS K G σ ρ ∧ Same G H ∧ BagOk G H b ∧ f ρ b = some (d, b') ∧
  ∀ v G' H', Nxt G H b G' H' b' → Rp K G' v d → Q v H'
def tFT (K : PySem.W.Frag) (f : Env → M Bool) : TT := fun σ H Q => ∃ ρ G b d b', RS K G σ ρ ∧ Same G H ∧ BagOk G H b ∧ f ρ b = some (d, b') ∧
  ∀ G' H', Nxt G H b G' H' b' → Q d H'
def tFA (K : PySem.W.Frag) (f : Env → M (List D)) : TA := fun σ H Q => ∃ ρ G b ds b', RS K G σ ρ ∧ Same G H ∧ BagOk G H b ∧ f ρ b = some (ds, b') ∧
  ∀ vs G' H', Nxt G H b G' H' b' → RpL K G' vs ds → Q vs H'
/-- a new list, not frozen -/
def tN (K : PySem.W.Frag) (f : Env → M (List D)) : TE := fun σ H Q => ∃ ρ G b ds b', RS K G σ ρ ∧ Same G H ∧ BagOk G H b ∧ f ρ b = some (ds, b') ∧
  ∀ p vs G' H', Nxt G H b G' H' b' → H p = none → G' p = none → H' p = some (.lst vs) → RpL K G' vs ds → Q (.ref p) H'
abbrev DE (X : Cx) (e : Expr) (f : Env → M D) : Prop := PE X e (tF X.K f)
abbrev DN (X : Cx) (e : Expr) (f : Env → M (List D)) : Prop := PE X e (tN X.K f)
abbrev DT (X : Cx) (e : Expr) (f : Env → M Bool) : Prop := PT X e (tFT X.K f)
abbrev DA (X : Cx) (es : List Expr) (f : Env → M (List D)) : Prop := PA X es (tFA X.K f)
theorem PEimp {X : Cx} {e : Expr} {t t' : TE} (h : PE X e t) (i : ∀ σ H Q, t' σ H Q → t σ H Q) : PE X e t' := ⟨fun pins s σ H Q I q => h.run pins s σ H Q I (i σ H Q q)⟩
theorem PTimp {X : Cx} {e : Expr} {t t' : TT} (h : PT X e t) (i : ∀ σ H Q, t' σ H Q → t σ H Q) : PT X e t' := ⟨fun pins s σ H Q I q => h.run pins s σ H Q I (i σ H Q q)⟩
theorem PAimp {X : Cx} {e : List Expr} {t t' : TA} (h : PA X e t) (i : ∀ σ H Q, t' σ H Q → t σ H Q) : PA X e t' := ⟨fun pos pins s σ H Q I q => h.run pos pins s σ H Q I (i σ H Q q)⟩
/-! ### names, constants -/
section
variable {X : Cx}
def rdEnv (i : Nat) (ρ : Env) : M D := match ρ[i]? with
  | some (some d) => M.ret d
  | _ => M.fail
theorem rdEnv_some {i : Nat} {ρ : Env} {b b' : Bs} {d : D} (h : rdEnv i ρ b = some (d, b')) : ρ[i]? = some (some d) ∧ b = b' := by
  unfold rdEnv at h
  cases e : ρ[i]? with
  | none => rw [e] at h; cases h
  | some o =>
    cases o with
    | none => rw [e] at h; cases h
    | some z => rw [e] at h; cases h; exact ⟨rfl, rfl⟩
theorem dv (i : Nat) {x : Str} {pos : Pos} (hN : X.N[i]? = some x := by rfl) (hv : Vis X.env.scope x := by first | exact Or.inl rfl | exact Or.inr (Or.inl rfl) | exact Or.inr (Or.inr rfl)) (hd : (x == ("__debug__" : Str)) = false := by decide)
    (hcd : (x == ("__classdict__" : Str)) = false := by decide) : DE X (.Name x pos) (rdEnv i) := by
  refine PEimp (pe_var (pos := pos) hN hv hd hcd) ?_
  rintro σ H Q ⟨ρ, G, b, d, b', r, f, o, e, q⟩
  obtain ⟨hd', rfl⟩ := rdEnv_some e
  obtain ⟨v, h1, h2⟩ := r.get i _ hd'
  exact ⟨v, h1, q v G H (Nxt.refl f o) h2⟩
theorem d_c {e : Expr} {v : V} {d : D} (h : PE X e (tC v)) (r : ∀ G, Rp X.K G v d) : DE X e (fun _ => M.ret d) := by
  refine PEimp h ?_
  rintro σ H Q ⟨ρ, G, b, d', b', _, f, o, e, q⟩
  cases e
  exact q v G H (Nxt.refl f o) (r G)
theorem d_int {i : Int} {j pos} : DE X (.Constant (.int i) j pos) (fun _ => M.ret (.int i)) := d_c pe_int fun _ => .int i
theorem d_bl {b : Bool} {j pos} : DE X (.Constant (.bool b) j pos) (fun _ => M.ret (.bl b)) := d_c pe_bl fun _ => .bl b
theorem d_non {j pos} : DE X (.Constant .none j pos) (fun _ => M.ret .non) := d_c pe_non fun _ => .non
theorem d_str {x : Str} {j pos} (l : List Nat) (h : x = ⟨l.toArray⟩ := by rfl) : DE X (.Constant (.str x) j pos) (fun _ => M.ret (.str l)) := d_c pe_str fun _ => by rw [h]; exact .str l
end
/-! ### two-place operations -/
def SndR (K : PySem.W.Frag) (r : R2) (g : D → D → M D) : Prop := ∀ G H b x y dx dy d b' Q, Rp K G x dx → Rp K G y dy → Same G H → BagOk G H b → g dx dy b = some (d, b') →
  (∀ v G' H', Nxt G H b G' H' b' → Rp K G' v d → Q v H') → r x y H Q
theorem two {K : PySem.W.Frag} {r : R2} {f g : Env → M D} {h : D → D → M D} (hs : SndR K r h) : ∀ σ H Q, tF K (fun ρ => M.bind (f ρ) fun x => M.bind (g ρ) fun y => h x y) σ H Q → tOp r (tF K f) (tF K g) σ H Q := by
  rintro σ H Q ⟨ρ, G, b, d, b', rs, fz, ob, e, q⟩
  obtain ⟨x, b1, e1, e⟩ := M.bind_some e
  obtain ⟨y, b2, e2, e3⟩ := M.bind_some e
  refine ⟨ρ, G, b, x, b1, rs, fz, ob, e1, fun v1 G1 H1 n1 r1 => ?_⟩
  refine ⟨ρ, G1, b1, y, b2, rs.mono n1.gg, n1.fz, n1.bag, e2, fun v2 G2 H2 n2 r2 => ?_⟩
  exact hs G2 H2 b2 v1 v2 x y d b' Q (r1.mono n2.gg) r2 n2.fz n2.bag e3 fun v G' H' n3 r3 => q v G' H' ((n1.trans n2).trans n3) r3
/-- pure values without a heap -/
theorem snd_pure {K : PySem.W.Frag} {r : R2} {g : D → D → Option D} (h : ∀ G x y dx dy d, Rp K G x dx → Rp K G y dy → g dx dy = some d → ∃ v, (∀ G', Rp K G' v d) ∧ ∀ H (Q : VK), Same G H → Q v H → r x y H Q) : SndR K r (fun x y => M.of (g x y)) := by
  intro G H b x y dx dy d b' Q rx ry f o e q
  have e' : M.of (g dx dy) b = some (d, b') := e
  clear e
  cases e1 : g dx dy with
  | none => rw [e1] at e'; cases e'
  | some z =>
    rw [e1] at e'
    cases e'
    obtain ⟨v, h1, h2⟩ := h G x y dx dy d rx ry e1
    exact h2 H Q f (q v G H (Nxt.refl f o) (h1 G))
section
variable {X : Cx} {a b : Expr} {f g : Env → M D} {h : D → D → M D} {r : R2} {pos : Pos}
theorem d_op {op : Operator} (ho : OpR X (binaryOp op) r) (hs : SndR X.K r h) (ha : DE X a f) (hb : DE X b g) : DE X (.BinOp a op b pos) (fun ρ => M.bind (f ρ) fun x => M.bind (g ρ) fun y => h x y) :=
  PEimp (pe_op ho ha hb) (two hs)
theorem d_cmp {op : CmpOp} (ho : OpR X (compareOp op) r) (hs : SndR X.K r h) (ha : DE X a f) (hb : DE X b g) (hm : behindInMarks op b = false) : DE X (.Compare a [op] [b] pos) (fun ρ => M.bind (f ρ) fun x => M.bind (g ρ) fun y => h x y) :=
  PEimp (pe_cmpR ho ha hb hm) (two hs)
theorem d_ix0 (ho : IxR X r) (hs : SndR X.K r h) (ha : DE X a f) (hb : DE X b g) (hp : PlainIx b) : DE X (.Subscript a b pos) (fun ρ => M.bind (f ρ) fun x => M.bind (g ρ) fun y => h x y) :=
  PEimp (pe_ix ho ha hb hp) (two hs)
/-- a comparison as a test -/
def asB : D → M Bool
  | .bl b => M.ret b
  | _ => M.fail
theorem asB_some {z : D} {b b' : Bs} {k : Bool} (h : asB z b = some (k, b')) : z = .bl k ∧ b = b' := by
  cases z <;> first | (cases h; done) | (cases h; exact ⟨rfl, rfl⟩)
theorem t_cmp {op : CmpOp} (ho : OpR X (compareOp op) r) (hs : SndR X.K r h) (ha : DE X a f) (hb : DE X b g) (hm : behindInMarks op b = false) : DT X (.Compare a [op] [b] pos) (fun ρ => M.bind (f ρ) fun x => M.bind (g ρ) fun y => M.bind (h x y) asB) := by
  refine PTimp (pt_cmpR ho ha hb hm) ?_
  rintro σ H Q ⟨ρ, G, b, d, b', rs, fz, ob, e, q⟩
  obtain ⟨x, b1, e1, e⟩ := M.bind_some e
  obtain ⟨y, b2, e2, e⟩ := M.bind_some e
  obtain ⟨z, b3, e3, e4⟩ := M.bind_some e
  refine two hs σ H _ ⟨ρ, G, b, z, b3, rs, fz, ob, ?_, fun v G' H' n rz => ?_⟩
  · show M.bind (f ρ) (fun x => M.bind (g ρ) fun y => h x y) b = _
    rw [M.bind_eq e1, M.bind_eq e2]; exact e3
  · obtain ⟨rfl, rfl⟩ := asB_some e4
    cases rz
    exact ⟨_, rfl, q G' H' n⟩
end
end DL
set_option Elab.async false
set_option maxRecDepth 100000
set_option autoImplicit false
set_option maxHeartbeats 4000000
namespace DL
open PySem L2
/-! ### arguments -/
section
variable {X : Cx}
theorem da_nil : DA X [] (fun _ => M.ret []) := by
  refine PAimp pa_nil ?_
  rintro σ H Q ⟨ρ, G, b, d, b', r, f, o, e, q⟩
  cases e
  exact q [] G H (Nxt.refl f o) .nil
theorem cons_f {K : PySem.W.Frag} {f : Env → M D} {g : Env → M (List D)} : ∀ σ H Q, tFA K (fun ρ => M.bind (f ρ) fun x => M.bind (g ρ) fun xs => M.ret (x :: xs)) σ H Q → tCons (tF K f) (tFA K g) σ H Q := by
  rintro σ H Q ⟨ρ, G, b, d, b', rs, fz, ob, e, q⟩
  obtain ⟨x, b1, e1, e⟩ := M.bind_some e
  obtain ⟨xs, b2, e2, e3⟩ := M.bind_some e
  cases e3
  refine ⟨ρ, G, b, x, b1, rs, fz, ob, e1, fun v G1 H1 n1 r1 => ?_⟩
  refine ⟨ρ, G1, b1, xs, b', rs.mono n1.gg, n1.fz, n1.bag, e2, fun vs G2 H2 n2 r2 => ?_⟩
  exact q (v :: vs) G2 H2 (n1.trans n2) (.cons (r1.mono n2.gg) r2)
theorem da_cons {e : Expr} {es : List Expr} {f : Env → M D} {g : Env → M (List D)} (ha : DE X e f) (hr : DA X es g) (hs : starEach (e :: es) X.env = (false, eval e X.env) :: starEach es X.env := by rfl) :
    DA X (e :: es) (fun ρ => M.bind (f ρ) fun x => M.bind (g ρ) fun xs => M.ret (x :: xs)) := PAimp (pa_cons ha hr hs) cons_f
/-! ### new lists, displays -/
theorem dn_f {K : PySem.W.Frag} {f : Env → M (List D)} : ∀ σ H Q, tF K (fun ρ => M.bind (f ρ) fun xs => M.ret (.lst xs)) σ H Q → tN K f σ H Q := by
  rintro σ H Q ⟨ρ, G, b, d, b', rs, fz, ob, e, q⟩
  obtain ⟨xs, b1, e1, e2⟩ := M.bind_some e
  cases e2
  refine ⟨ρ, G, b, xs, b', rs, fz, ob, e1, fun p vs G' H' n hp gp hh r => ?_⟩
  have sg : Same G' (upd G' p (.lst vs)) := fun a o h => by rw [upd_ne (ne_of_none h gp)]; exact h
  refine q (.ref p) (upd G' p (.lst vs)) H' ⟨fun a o h => sg a o (n.gg a o h), fun a o h => ?_, n.keep, fun a o h hn => ?_, ?_, n.like⟩ (.lst upd_same (r.mono sg))
  · by_cases ea : a = p
    · subst ea; rw [upd_same] at h; cases h; exact hh
    · rw [upd_ne ea] at h; exact n.fz a o h
  · rw [upd_ne (ne_of_none h hp)]; exact n.new a o h hn
  · have ob' := n.bag
    cases b' with
    | none => trivial
    | some g =>
      obtain ⟨h1, h2, h3⟩ := ob'
      refine ⟨?_, h2, sg _ _ h3⟩
      have ne : g.p ≠ p := by
        intro z
        have l := Bs.like_at n.like
        cases b with
        | none => cases l
        | some g0 =>
          have l' : g0.p = g.p := Option.some.inj l
          have := ob.2.1
          rw [l', z, hp] at this
          cases this
      rw [upd_ne ne]; exact h1
theorem d_n {e : Expr} {f : Env → M (List D)} (h : DN X e f) : DE X e (fun ρ => M.bind (f ρ) fun xs => M.ret (.lst xs)) := PEimp h dn_f
def szL (xs : List D) : Bool := decide (xs.length ≤ sizeLine)
theorem M.guard_some {α : Type} {c : Bool} {m : M α} {b : Bs} {r : α × Bs} (h : M.guard c m b = some r) : c = true ∧ m b = some r := by
  unfold M.guard at h
  cases c with
  | true => exact ⟨rfl, h⟩
  | false => cases h
theorem dn_lst {es : List Expr} {pos : Pos} {g : Env → M (List D)} (h : DA X es g) : DN X (.List es pos) (fun ρ => M.bind (g ρ) fun xs => M.guard (szL xs) (M.ret xs)) := by
  refine PEimp (pe_lst h) ?_
  rintro σ H Q ⟨ρ, G, b, d, b', rs, fz, ob, e, q⟩
  obtain ⟨xs, b1, e1, e2⟩ := M.bind_some e
  obtain ⟨c, e3⟩ := M.guard_some e2
  cases e3
  refine ⟨ρ, G, b, d, b', rs, fz, ob, e1, fun vs G' H' n r => ⟨by rw [r.length]; exact of_decide_eq_true c, fun p hp => ?_⟩⟩
  have h0 : H p = none := by
    cases e : H p with
    | none => rfl
    | some o =>
      by_cases z : b.at = some p
      · have z2 : b'.at = some p := by rw [← Bs.like_at n.like]; exact z
        have ob' := n.bag
        cases b' with
        | none => cases z2
        | some g =>
          have : g.p = p := Option.some.inj z2
          rw [← this, ob'.2.1] at hp; cases hp
      · rw [n.keep p o e z] at hp; cases hp
  exact q p vs G' _ (n.trans (Nxt.newH n.fz n.bag hp)) h0 (gnone n.fz hp) upd_same r
/-- a place that is free behind a step was free ahead of it -/
theorem Nxt.free {G H G' H' : Hp} {b b' : Bs} {p : Addr} (n : Nxt G H b G' H' b') (hp : H' p = none) : H p = none := by
  cases e : H p with
  | none => rfl
  | some o =>
    by_cases z : b.at = some p
    · have z2 : b'.at = some p := by rw [← Bs.like_at n.like]; exact z
      have ob' := n.bag
      cases b' with
      | none => cases z2
      | some g =>
        have : g.p = p := Option.some.inj z2
        rw [← this, ob'.2.1] at hp; cases hp
    · rw [n.keep p o e z] at hp; cases hp
theorem d_tup {es : List Expr} {k : Nat} {pos : Pos} {g : Env → M (List D)} (h : DA X es g) : DE X (.Tuple es k pos) (fun ρ => M.bind (g ρ) fun xs => M.guard (szL xs) (M.ret (.tup xs))) := by
  refine PEimp (pe_tup h) ?_
  rintro σ H Q ⟨ρ, G, b, d, b', rs, fz, ob, e, q⟩
  obtain ⟨xs, b1, e1, e2⟩ := M.bind_some e
  obtain ⟨c, e3⟩ := M.guard_some e2
  cases e3
  refine ⟨ρ, G, b, xs, b', rs, fz, ob, e1, fun vs G' H' n r => ⟨by rw [r.length]; exact of_decide_eq_true c, fun p hp => ?_⟩⟩
  have m := Nxt.newF (o := .tup vs) n.fz n.bag hp
  exact q (.ref p) _ _ (n.trans m) (.tup (SqT.of upd_same) (r.mono m.gg))
/-! ### tests -/
def truD : D → M Bool
  | .non => M.ret false
  | .bl b => M.ret b
  | .int i => M.ret (i != 0)
  | .str x => M.guard (decide (x.length ≤ sizeLine)) (M.ret (!x.isEmpty))
  | .lst xs => M.ret (!xs.isEmpty)
  | .tup xs => M.ret (!xs.isEmpty)
  | _ => M.fail
theorem RpL.empty {K : PySem.W.Frag} {G : Hp} {vs : List V} {ds : List D} (r : RpL K G vs ds) : vs.isEmpty = ds.isEmpty := by
  cases r <;> rfl
theorem t_val {e : Expr} {f : Env → M D} (h : DE X e f) (he : ∀ whole, isTrue e X.env whole = (do let v ← whole; standAt e.pos; holding [v] (truthy v)) := by intro _; rfl) : DT X e (fun ρ => M.bind (f ρ) truD) := by
  refine PTimp (pt_truth h he) ?_
  rintro σ H Q ⟨ρ, G, b, d, b', rs, fz, ob, e, q⟩
  obtain ⟨x, b1, e1, e2⟩ := M.bind_some e
  refine ⟨ρ, G, b, x, b1, rs, fz, ob, e1, fun v G' H' n r => ?_⟩
  cases r with
  | non => cases e2; exact ⟨false, rfl, q _ _ n⟩
  | bl k => cases e2; exact ⟨_, rfl, q _ _ n⟩
  | int i => cases e2; exact ⟨_, rfl, q _ _ n⟩
  | str x =>
    obtain ⟨c, e3⟩ := M.guard_some e2
    cases e3
    refine ⟨_, ⟨of_decide_eq_true c, ?_⟩, q _ _ n⟩
    show _ = (((⟨x.toArray⟩ : Str).length : Int) != 0)
    cases x with
    | nil => rfl
    | cons c l => rfl
  | lst h1 h2 => cases e2; exact ⟨_, .inl ⟨_, SqL.of (n.fz _ _ h1), by rw [h2.empty]⟩, q _ _ n⟩
  | tup h1 h2 => cases e2; exact ⟨_, .inr (.inl ⟨_, Same.sqt n.fz h1, by rw [h2.empty]⟩), q _ _ n⟩
  | dct h1 h2 h3 => cases e2
  | obj h1 h2 h3 => cases e2
  | bag p => cases e2
  | scr h => cases e2
theorem t_not {e : Expr} {pos : Pos} {f : Env → M Bool} (h : DT X e f) : DT X (.UnaryOp .Not e pos) (fun ρ => M.bind (f ρ) fun k => M.ret (!k)) := by
  refine PTimp (pt_not h) ?_
  rintro σ H Q ⟨ρ, G, b, d, b', rs, fz, ob, e, q⟩
  obtain ⟨x, b1, e1, e2⟩ := M.bind_some e
  cases e2
  exact ⟨ρ, G, b, x, b', rs, fz, ob, e1, fun G' H' n => q _ _ n⟩
abbrev DW (X : Cx) (e : Expr) (f : Env → M Bool) : Prop := PW X e (tFT X.K f)
theorem PWimp {e : Expr} {t t' : TT} (h : PW X e t) (i : ∀ σ H Q, t' σ H Q → t σ H Q) : PW X e t' := ⟨fun whole pins s σ H Q I q => h.run whole pins s σ H Q I (i σ H Q q)⟩
variable {a b : Expr} {rest : List Expr} {pos : Pos}
theorem w_and1 {f : Env → M Bool} (ha : DT X a f) : DW X (.BoolOp .And [a] pos) f := pw_and1 ha
theorem w_or1 {f : Env → M Bool} (ha : DT X a f) : DW X (.BoolOp .Or [a] pos) f := pw_or1 ha
theorem w_and {f g : Env → M Bool} (ha : DT X a f) (hb : DW X (.BoolOp .And (b :: rest) pos) g) : DW X (.BoolOp .And (a :: b :: rest) pos) (fun ρ => M.bind (f ρ) fun k => if k = true then g ρ else M.ret false) := by
  refine PWimp (pw_and ha hb) ?_
  rintro σ H Q ⟨ρ, G, b, d, b', rs, fz, ob, e, q⟩
  obtain ⟨k, b1, e1, e2⟩ := M.bind_some e
  refine ⟨ρ, G, b, k, b1, rs, fz, ob, e1, fun G1 H1 n1 => ?_⟩
  cases k with
  | true => exact iteT ⟨ρ, G1, b1, d, b', rs.mono n1.gg, n1.fz, n1.bag, e2, fun G2 H2 n2 => q _ _ (n1.trans n2)⟩
  | false => cases e2; exact iteF (q _ _ n1)
theorem w_or {f g : Env → M Bool} (ha : DT X a f) (hb : DW X (.BoolOp .Or (b :: rest) pos) g) : DW X (.BoolOp .Or (a :: b :: rest) pos) (fun ρ => M.bind (f ρ) fun k => if k = true then M.ret true else g ρ) := by
  refine PWimp (pw_or ha hb) ?_
  rintro σ H Q ⟨ρ, G, b, d, b', rs, fz, ob, e, q⟩
  obtain ⟨k, b1, e1, e2⟩ := M.bind_some e
  refine ⟨ρ, G, b, k, b1, rs, fz, ob, e1, fun G1 H1 n1 => ?_⟩
  cases k with
  | true => cases e2; exact iteT (q _ _ n1)
  | false => exact iteF ⟨ρ, G1, b1, d, b', rs.mono n1.gg, n1.fz, n1.bag, e2, fun G2 H2 n2 => q _ _ (n1.trans n2)⟩
theorem t_w {e : Expr} {f : Env → M Bool} (h : DW X e f) : DT X e f := PW.pt h
/-- and, or, not as values: all but the last are truths -/
theorem d_and {f g : Env → M D} (ha : DE X a f) (hb : DE X (.BoolOp .And (b :: rest) pos) g) : DE X (.BoolOp .And (a :: b :: rest) pos) (fun ρ => M.bind (f ρ) fun x => M.bind (asB x) fun k => if k = true then g ρ else M.ret (.bl false)) := by
  refine PEimp (pe_and ha hb) ?_
  rintro σ H Q ⟨ρ, G, b, d, b', rs, fz, ob, e, q⟩
  obtain ⟨x, b1, e1, e2⟩ := M.bind_some e
  obtain ⟨k, b2, e2, e3⟩ := M.bind_some e2
  obtain ⟨rfl, rfl⟩ := asB_some e2
  refine ⟨ρ, G, b, _, b1, rs, fz, ob, e1, fun v G1 H1 n1 r => ?_⟩
  cases r
  refine ⟨k, rfl, ?_⟩
  cases k with
  | true => exact iteT ⟨ρ, G1, b1, d, b', rs.mono n1.gg, n1.fz, n1.bag, e3, fun v2 G2 H2 n2 r2 => q v2 _ _ (n1.trans n2) r2⟩
  | false => cases e3; exact iteF (q _ _ _ n1 (.bl false))
theorem d_or {f g : Env → M D} (ha : DE X a f) (hb : DE X (.BoolOp .Or (b :: rest) pos) g) : DE X (.BoolOp .Or (a :: b :: rest) pos) (fun ρ => M.bind (f ρ) fun x => M.bind (asB x) fun k => if k = true then M.ret (.bl true) else g ρ) := by
  refine PEimp (pe_or ha hb) ?_
  rintro σ H Q ⟨ρ, G, b, d, b', rs, fz, ob, e, q⟩
  obtain ⟨x, b1, e1, e2⟩ := M.bind_some e
  obtain ⟨k, b2, e2, e3⟩ := M.bind_some e2
  obtain ⟨rfl, rfl⟩ := asB_some e2
  refine ⟨ρ, G, b, _, b1, rs, fz, ob, e1, fun v G1 H1 n1 r => ?_⟩
  cases r
  refine ⟨k, rfl, ?_⟩
  cases k with
  | true => cases e3; exact iteT (q _ _ _ n1 (.bl true))
  | false => exact iteF ⟨ρ, G1, b1, d, b', rs.mono n1.gg, n1.fz, n1.bag, e3, fun v2 G2 H2 n2 r2 => q v2 _ _ (n1.trans n2) r2⟩
theorem d_one {op : BoolOp} {f : Env → M D} (ha : DE X a f) : DE X (.BoolOp op [a] pos) f := pe_one ha
theorem d_not {f : Env → M D} (ha : DE X a f) : DE X (.UnaryOp .Not a pos) (fun ρ => M.bind (f ρ) fun x => M.bind (asB x) fun k => M.ret (.bl (!k))) := by
  refine PEimp (pe_not ha) ?_
  rintro σ H Q ⟨ρ, G, b, d, b', rs, fz, ob, e, q⟩
  obtain ⟨x, b1, e1, e2⟩ := M.bind_some e
  obtain ⟨k, b2, e2, e3⟩ := M.bind_some e2
  obtain ⟨rfl, rfl⟩ := asB_some e2
  cases e3
  refine ⟨ρ, G, b, _, b', rs, fz, ob, e1, fun v G1 H1 n1 r => ?_⟩
  cases r
  exact ⟨k, rfl, q _ _ _ n1 (.bl _)⟩
theorem d_if {c : Expr} {t : Env → M Bool} {f g : Env → M D} (hc : DT X c t) (ha : DE X a f) (hb : DE X b g) : DE X (.IfExp c a b pos) (fun ρ => M.bind (t ρ) fun k => if k = true then f ρ else g ρ) := by
  refine PEimp (pe_ifExp hc ha hb) ?_
  rintro σ H Q ⟨ρ, G, b, d, b', rs, fz, ob, e, q⟩
  obtain ⟨k, b1, e1, e2⟩ := M.bind_some e
  refine ⟨ρ, G, b, k, b1, rs, fz, ob, e1, fun G1 H1 n1 => ?_⟩
  cases k with
  | true => exact iteT ⟨ρ, G1, b1, d, b', rs.mono n1.gg, n1.fz, n1.bag, e2, fun v G2 H2 n2 r => q _ _ _ (n1.trans n2) r⟩
  | false => exact iteF ⟨ρ, G1, b1, d, b', rs.mono n1.gg, n1.fz, n1.bag, e2, fun v G2 H2 n2 r => q _ _ _ (n1.trans n2) r⟩
end
/-! ### calls of what is built in -/
def SndC (K : PySem.W.Frag) (r : List V → Hp → VK → Prop) (g : List D → M D) : Prop := ∀ G H b vs ds d b' Q, RpL K G vs ds → Same G H → BagOk G H b → g ds b = some (d, b') →
  (∀ v G' H', Nxt G H b G' H' b' → Rp K G' v d → Q v H') → r vs H Q
def SndCN (K : PySem.W.Frag) (r : List V → Hp → VK → Prop) (g : List D → M (List D)) : Prop := ∀ G H b vs ds xs b' Q, RpL K G vs ds → Same G H → BagOk G H b → g ds b = some (xs, b') →
  (∀ p ws G' H', Nxt G H b G' H' b' → H p = none → G' p = none → H' p = some (.lst ws) → RpL K G' ws xs → Q (.ref p) H') → r vs H Q
section
variable {X : Cx} {x : Str} {p pos : Pos} {e : Expr} {es : List Expr} {f : Env → M (List D)} {g : List D → M D} {gn : List D → M (List D)} {id T : String} {r : List V → Hp → VK → Prop}
theorem cb_f {K : PySem.W.Frag} (hs : SndC K r g) : ∀ σ H Q, tF K (fun ρ => M.bind (f ρ) g) σ H Q → tCB r (tFA K f) σ H Q := by
  rintro σ H Q ⟨ρ, G, b, d, b', rs, fz, ob, e, q⟩
  obtain ⟨ds, b1, e1, e2⟩ := M.bind_some e
  refine ⟨ρ, G, b, ds, b1, rs, fz, ob, e1, fun vs G1 H1 n1 r1 => ?_⟩
  exact hs G1 H1 b1 vs ds d b' Q r1 n1.fz n1.bag e2 fun v G2 H2 n2 r2 => q v G2 H2 (n1.trans n2) r2
theorem cbn_f {K : PySem.W.Frag} (hs : SndCN K r gn) : ∀ σ H Q, tN K (fun ρ => M.bind (f ρ) gn) σ H Q → tCB r (tFA K f) σ H Q := by
  rintro σ H Q ⟨ρ, G, b, d, b', rs, fz, ob, e, q⟩
  obtain ⟨ds, b1, e1, e2⟩ := M.bind_some e
  refine ⟨ρ, G, b, ds, b1, rs, fz, ob, e1, fun vs G1 H1 n1 r1 => ?_⟩
  exact hs G1 H1 b1 vs ds d b' Q r1 n1.fz n1.bag e2 fun p ws G2 H2 n2 hp gp hh r2 => q p ws G2 H2 (n1.trans n2) (n1.free hp) gp hh r2
theorem d_callB (hc : CallR X (.builtin id) r) (hs : SndC X.K r g) (hg : Gl X x) (hm : X.mg x = none) (hv : bootBuiltins x = some (.builtin id)) (ha : DA X (e :: es) f) (hn : x ≠ "__name__" := by decide) (hdb : (x == ("__debug__" : Str)) = false := by decide)
    (he : starEach (e :: es) X.env = (false, eval e X.env) :: starEach es X.env := by rfl) (hpl : (backTo pos (starEach es X.env)).any (·.1) = false := by rfl) : DE X (.Call (.Name x p) (e :: es) [] pos) (fun ρ => M.bind (f ρ) g) :=
  PEimp (pe_callB hc hg hm hv ha hn hdb he hpl) (cb_f hs)
theorem dn_callB (hc : CallR X (.builtin id) r) (hs : SndCN X.K r gn) (hg : Gl X x) (hm : X.mg x = none) (hv : bootBuiltins x = some (.builtin id)) (ha : DA X (e :: es) f) (hn : x ≠ "__name__" := by decide) (hdb : (x == ("__debug__" : Str)) = false := by decide)
    (he : starEach (e :: es) X.env = (false, eval e X.env) :: starEach es X.env := by rfl) (hpl : (backTo pos (starEach es X.env)).any (·.1) = false := by rfl) : DN X (.Call (.Name x p) (e :: es) [] pos) (fun ρ => M.bind (f ρ) gn) :=
  PEimp (pe_callB hc hg hm hv ha hn hdb he hpl) (cbn_f hs)
theorem d_callTy (hc : CallR X (.type T) r) (hs : SndC X.K r g) (hg : Gl X x) (hm : X.mg x = none) (hv : bootBuiltins x = some (.type T)) (ha : DA X (e :: es) f) (hn : x ≠ "__name__" := by decide) (hdb : (x == ("__debug__" : Str)) = false := by decide)
    (he : starEach (e :: es) X.env = (false, eval e X.env) :: starEach es X.env := by rfl) (hpl : (backTo pos (starEach es X.env)).any (·.1) = false := by rfl) : DE X (.Call (.Name x p) (e :: es) [] pos) (fun ρ => M.bind (f ρ) g) :=
  PEimp (pe_callTy hc hg hm hv ha hn hdb he hpl) (cb_f hs)
theorem dn_callTy (hc : CallR X (.type T) r) (hs : SndCN X.K r gn) (hg : Gl X x) (hm : X.mg x = none) (hv : bootBuiltins x = some (.type T)) (ha : DA X (e :: es) f) (hn : x ≠ "__name__" := by decide) (hdb : (x == ("__debug__" : Str)) = false := by decide)
    (he : starEach (e :: es) X.env = (false, eval e X.env) :: starEach es X.env := by rfl) (hpl : (backTo pos (starEach es X.env)).any (·.1) = false := by rfl) : DN X (.Call (.Name x p) (e :: es) [] pos) (fun ρ => M.bind (f ρ) gn) :=
  PEimp (pe_callTy hc hg hm hv ha hn hdb he hpl) (cbn_f hs)
end
end DL
set_option Elab.async false
set_option maxRecDepth 100000
set_option autoImplicit false
set_option linter.unusedVariables false
set_option maxHeartbeats 4000000
namespace DL
open PySem L2
/-! ### what is walked -/
/-- J yields ds wherever G0 stands frozen -/
def Yl (K : PySem.W.Frag) (G0 : Hp) (J : It) (ds : List D) : Prop := ∀ (i : Nat) (G H : Hp) (b : Bs), Same G0 G → Same G H → BagOk G H b →
  (∀ d, ds[i]? = some d → J.go i H ∧ ∀ x H', J.yld i H x H' → ∃ G', Nxt G H b G' H' b ∧ Rp K G' x d) ∧ (ds.length ≤ i → J.stop i H)
def iF (K : PySem.W.Frag) (g : Env → M (List D)) : TI := fun σ H R => ∃ ρ G b ds b', RS K G σ ρ ∧ Same G H ∧ BagOk G H b ∧ g ρ b = some (ds, b') ∧
  ∀ J G' H', Nxt G H b G' H' b' → Yl K G' J ds → R J H'
/-- .. whatever the heap is -/
def iR (K : PySem.W.Frag) (g : Env → M (List D)) : TI := fun σ H R => ∃ ρ G b ds b', RS K G σ ρ ∧ Same G H ∧ BagOk G H b ∧ g ρ b = some (ds, b') ∧
  ∀ J G' H', Nxt G H b G' H' b' → Yl K (fun _ => none) J ds → R J H'
abbrev DI (X : Cx) (tg e : Expr) (g : Env → M (List D)) : Prop := PI X tg e (iF X.K g)
abbrev DR (X : Cx) (tg e : Expr) (g : Env → M (List D)) : Prop := PI X tg e (iR X.K g)
theorem PIimp {X : Cx} {tg e : Expr} {t t' : TI} (h : PI X tg e t) (i : ∀ σ H Q, t' σ H Q → t σ H Q) : PI X tg e t' := ⟨fun pins s σ H Q I q => h.run pins s σ H Q I (i σ H Q q)⟩
theorem di_r {X : Cx} {tg e : Expr} {g : Env → M (List D)} (h : DR X tg e g) : DI X tg e g := PIimp h fun σ H R ⟨ρ, G, b, ds, b', rs, fz, ob, e, q⟩ =>
  ⟨ρ, G, b, ds, b', rs, fz, ob, e, fun J G' H' n y => q J G' H' n fun i G2 H2 b2 _ f o => y i G2 H2 b2 (fun _ _ z => nomatch z) f o⟩
def itemsD : D → M (List D)
  | .lst xs => M.ret xs
  | .tup xs => M.ret xs
  | .str x => M.ret (x.map fun c => .str [c])
  | _ => M.fail
theorem yl_list {K : PySem.W.Frag} {G : Hp} {a : Addr} {vs : List V} {ds : List D} (h : G a = some (.lst vs)) (r : RpL K G vs ds) : Yl K G (Itl K a) ds := by
  intro i G1 H1 b s1 s2 ob
  have hq : SqL K H1 a vs := SqL.of (s2 _ _ (s1 _ _ h))
  refine ⟨fun d hd => ?_, fun hl => ⟨vs, hq, by rw [r.length]; exact hl⟩⟩
  obtain ⟨v, h1, h2⟩ := r.get hd
  refine ⟨⟨vs, v, hq, h1⟩, ?_⟩
  rintro x H' ⟨rfl, hx⟩
  refine ⟨G1, Nxt.refl s2 ob, ?_⟩
  rw [hx vs hq] at h1
  cases h1
  exact h2.mono s1
theorem yl_tup {K : PySem.W.Frag} {G : Hp} {a : Addr} {vs : List V} {ds : List D} (h : SqT K G a vs) (r : RpL K G vs ds) : Yl K G (Itt K a) ds := by
  intro i G1 H1 b s1 s2 ob
  have hq : SqT K H1 a vs := Same.sqt s2 (Same.sqt s1 h)
  refine ⟨fun d hd => ?_, fun hl => ⟨vs, hq, by rw [r.length]; exact hl⟩⟩
  obtain ⟨v, h1, h2⟩ := r.get hd
  refine ⟨⟨vs, v, hq, h1⟩, ?_⟩
  rintro x H' ⟨rfl, hx⟩
  refine ⟨G1, Nxt.refl s2 ob, ?_⟩
  rw [hx vs hq] at h1
  cases h1
  exact h2.mono s1
theorem yl_str {K : PySem.W.Frag} {G : Hp} (x : List Nat) : Yl K G (Its ⟨x.toArray⟩) (x.map fun c => .str [c]) := by
  intro i G1 H1 b s1 s2 ob
  refine ⟨fun d hd => ?_, fun hl => ?_⟩
  · rw [List.getElem?_map] at hd
    cases e : x[i]? with
    | none => rw [e] at hd; cases hd
    | some c =>
      rw [e] at hd
      cases hd
      have hi : i < x.length := (List.getElem?_eq_some_iff.mp e).1
      refine ⟨by show i < x.toArray.size; simpa using hi, ?_⟩
      rintro y H' ⟨rfl, c', h1, rfl⟩
      have h1' : x.toArray[i]? = some c' := h1
      have : c = c' := by
        rw [List.getElem?_toArray, e] at h1'
        exact Option.some.inj h1'
      subst this
      exact ⟨G1, Nxt.refl s2 ob, Rp.str [c]⟩
  · show x.toArray.size ≤ i
    simpa using hl
theorem yl_range {K : PySem.W.Frag} {G : Hp} (lo : Int) (n : Nat) : Yl K G (Itr lo n) ((List.range n).map fun k => .int (lo + (k : Nat))) := by
  intro i G1 H1 b s1 s2 ob
  refine ⟨fun d hd => ?_, fun hl => by show n ≤ i; simpa using hl⟩
  rw [List.getElem?_map] at hd
  by_cases hi : i < n
  · rw [List.getElem?_range hi] at hd
    cases hd
    refine ⟨hi, ?_⟩
    rintro y H' ⟨rfl, rfl⟩
    exact ⟨G1, Nxt.refl s2 ob, Rp.int _⟩
  · rw [List.getElem?_eq_none (by simpa using hi)] at hd
    cases hd
section
variable {X : Cx} {tg : Expr} {p pos : Pos}
/-- a list, a tuple, a text -/
theorem di_any {e : Expr} {f : Env → M D} (h : DE X e f) : DI X tg e (fun ρ => M.bind (f ρ) itemsD) := by
  have pl := pi_list (tg := tg) h
  have pt := pi_tup (tg := tg) h
  have px := pi_str (tg := tg) h
  refine ⟨fun pins s σ H R I q0 => ?_⟩
  obtain ⟨ρ, G, b, ds, b', rs, fz, ob, e, q⟩ := q0
  obtain ⟨d, b1, e1, e2⟩ := M.bind_some e
  cases d with
  | lst xs =>
    cases e2
    refine pl.run pins s σ H R I ⟨ρ, G, b, _, b', rs, fz, ob, e1, fun v G' H' n r => ?_⟩
    cases r with
    | lst h1 h2 => exact ⟨_, rfl, ⟨_, SqL.of (n.fz _ _ h1)⟩, q _ G' H' n (yl_list h1 h2)⟩
  | tup xs =>
    cases e2
    refine pt.run pins s σ H R I ⟨ρ, G, b, _, b', rs, fz, ob, e1, fun v G' H' n r => ?_⟩
    cases r with
    | tup h1 h2 => exact ⟨_, rfl, ⟨_, Same.sqt n.fz h1⟩, q _ G' H' n (yl_tup h1 h2)⟩
  | str x =>
    cases e2
    refine px.run pins s σ H R I ⟨ρ, G, b, _, b', rs, fz, ob, e1, fun v G' H' n r => ?_⟩
    cases r with
    | str x => exact ⟨_, rfl, q _ G' H' n (yl_str x)⟩
  | dct _ _ => cases e2
  | non => cases e2
  | bl _ => cases e2
  | int _ => cases e2
  | obj _ _ => cases e2
  | bag _ => cases e2
  | scr _ => cases e2
def okR (i : Int) : Bool := decide (-(2 ^ 62) ≤ i) && decide (i < 2 ^ 62)
def rng1 : List D → M (List D)
  | [.int j] => M.guard (okR j) (M.ret ((List.range j.toNat).map fun k => .int (0 + (k : Nat))))
  | _ => M.fail
def rng2 : List D → M (List D)
  | [.int i, .int j] => M.guard (okR i && okR j) (M.ret ((List.range (j - i).toNat).map fun k => .int (i + (k : Nat))))
  | _ => M.fail
theorem dr_range1 {a : Expr} {f : Env → M (List D)} (hg : Gl X "range") (hm : X.mg "range" = none) (ha : DA X [a] f) (hs : starEach [a] X.env = [(false, eval a X.env)] := by rfl) : DR X tg (.Call (.Name "range" p) [a] [] pos) (fun ρ => M.bind (f ρ) rng1) := by
  refine PIimp (pi_range1 hg hm ha hs) ?_
  rintro σ H Q ⟨ρ, G, b, ds, b', rs, fz, ob, e, q⟩
  obtain ⟨d, b1, e1, e2⟩ := M.bind_some e
  refine ⟨ρ, G, b, d, b1, rs, fz, ob, e1, fun vs G' H' n r => ?_⟩
  unfold rng1 at e2
  split at e2
  · obtain ⟨c, e3⟩ := M.guard_some e2
    cases e3
    cases r with
    | cons r1 r2 =>
      cases r2
      cases r1
      have c' := of_decide_eq_true (Bool.and_eq_true_iff.mp c).1
      have c'' := of_decide_eq_true (Bool.and_eq_true_iff.mp c).2
      exact ⟨_, rfl, c', c'', q _ _ _ n (yl_range 0 _)⟩
  · cases e2
theorem dr_range2 {a a2 : Expr} {f : Env → M (List D)} (hg : Gl X "range") (hm : X.mg "range" = none) (ha : DA X [a, a2] f) (hs : starEach [a, a2] X.env = [(false, eval a X.env), (false, eval a2 X.env)] := by rfl) (hs2 : starEach [a2] X.env = [(false, eval a2 X.env)] := by rfl) :
    DR X tg (.Call (.Name "range" p) [a, a2] [] pos) (fun ρ => M.bind (f ρ) rng2) := by
  refine PIimp (pi_range2 hg hm ha hs hs2) ?_
  rintro σ H Q ⟨ρ, G, b, ds, b', rs, fz, ob, e, q⟩
  obtain ⟨d, b1, e1, e2⟩ := M.bind_some e
  refine ⟨ρ, G, b, d, b1, rs, fz, ob, e1, fun vs G' H' n r => ?_⟩
  unfold rng2 at e2
  split at e2
  · obtain ⟨c, e3⟩ := M.guard_some e2
    cases e3
    cases r with
    | cons r1 r2 =>
      cases r2 with
      | cons r2 r3 =>
        cases r3
        cases r1
        cases r2
        obtain ⟨c1, c2⟩ := Bool.and_eq_true_iff.mp c
        exact ⟨_, _, rfl, ⟨of_decide_eq_true (Bool.and_eq_true_iff.mp c1).1, of_decide_eq_true (Bool.and_eq_true_iff.mp c1).2, of_decide_eq_true (Bool.and_eq_true_iff.mp c2).1, of_decide_eq_true (Bool.and_eq_true_iff.mp c2).2⟩, q _ _ _ n (yl_range _ _)⟩
  · cases e2
end
/-! ### targets -/
def setAll (σ : L2.St) : List (Nat × V) → L2.St
  | [] => σ
  | (i, v) :: r => setAll (σ.set i (some v)) r
def setAllD (ρ : Env) : List (Nat × D) → Env
  | [] => ρ
  | (i, d) :: r => setAllD (ρ.set i (some d)) r
abbrev RpP (K : PySem.W.Frag) (G : Hp) : List (Nat × V) → List (Nat × D) → Prop := Paired fun p q => p.1 = q.1 ∧ Rp K G p.2 q.2
def TgOk (K : PySem.W.Frag) (g : TG) (bs : D → Option (List (Nat × D))) (is : List Nat) : Prop := ∀ G v d l, Rp K G v d → bs d = some l →
  ∃ lv, RpP K G lv l ∧ (∀ p ∈ lv, p.1 ∈ is) ∧ ∀ H σ Q, Same G H → Q (setAll σ lv) H → g v σ H Q
def bName (i : Nat) : D → Option (List (Nat × D)) := fun d => some [(i, d)]
theorem tg_name {K : PySem.W.Frag} (i : Nat) : TgOk K (gName i) (bName i) [i] := by
  intro G v d l r e
  cases e
  exact ⟨[(i, v)], .cons ⟨rfl, r⟩ .nil, fun p hp => by simp at hp; subst hp; simp, fun H σ Q _ q => q⟩
def TgsOk (K : PySem.W.Frag) (g : TGs) (bs : List D → Option (List (Nat × D))) (is : List Nat) : Prop := ∀ G vs ds l, RpL K G vs ds → bs ds = some l →
  ∃ lv, RpP K G lv l ∧ (∀ p ∈ lv, p.1 ∈ is) ∧ ∀ H σ Q, Same G H → Q (setAll σ lv) H → g vs σ H Q
def bNil : List D → Option (List (Nat × D))
  | [] => some []
  | _ => none
def bCons (f : D → Option (List (Nat × D))) (g : List D → Option (List (Nat × D))) : List D → Option (List (Nat × D))
  | d :: r => match f d, g r with
    | some l, some l' => some (l ++ l')
    | _, _ => none
  | [] => none
theorem setAll_app (σ : L2.St) : ∀ (l l' : List (Nat × V)), setAll σ (l ++ l') = setAll (setAll σ l) l'
  | [], _ => rfl
  | (i, v) :: r, l' => by show setAll (σ.set i (some v)) (r ++ l') = setAll (setAll (σ.set i (some v)) r) l'; exact setAll_app _ r l'
theorem paired_app {α β : Type} {F : α → β → Prop} : ∀ {a : List α} {b : List β} {c : List α} {d : List β}, Paired F a b → Paired F c d → Paired F (a ++ c) (b ++ d)
  | _, _, _, _, .nil, h => h
  | _, _, _, _, .cons x y, h => .cons x (paired_app y h)
theorem tgs_nil {K : PySem.W.Frag} : TgsOk K gNil bNil [] := by
  intro G vs ds l r e
  cases r with
  | nil => cases e; exact ⟨[], .nil, fun p hp => (nomatch hp), fun H σ Q _ q => ⟨rfl, q⟩⟩
  | cons _ _ => cases e
theorem tgs_cons {K : PySem.W.Frag} {g : TG} {gs : TGs} {f : D → Option (List (Nat × D))} {fs : List D → Option (List (Nat × D))} {is js : List Nat} (h1 : TgOk K g f is) (h2 : TgsOk K gs fs js) : TgsOk K (gCons g gs) (bCons f fs) (is ++ js) := by
  intro G vs ds l r e
  cases r with
  | nil => cases e
  | @cons v vs d ds r1 r2 =>
    unfold bCons at e
    cases e1 : f d with
    | none => simp only [e1] at e; cases e
    | some l1 =>
      cases e2 : fs ds with
      | none => simp only [e1, e2] at e; cases e
      | some l2 =>
        simp only [e1, e2] at e
        cases e
        obtain ⟨lv1, p1, i1, q1⟩ := h1 G v d l1 r1 e1
        obtain ⟨lv2, p2, i2, q2⟩ := h2 G vs ds l2 r2 e2
        refine ⟨lv1 ++ lv2, paired_app p1 p2, fun p hp => ?_, fun H σ Q s q => ?_⟩
        · rcases List.mem_append.mp hp with z | z
          · exact List.mem_append_left _ (i1 p z)
          · exact List.mem_append_right _ (i2 p z)
        · rw [setAll_app] at q
          exact ⟨v, vs, rfl, q1 H σ _ s (q2 H _ Q s q)⟩
def bTup (n : Nat) (f : List D → Option (List (Nat × D))) : D → Option (List (Nat × D))
  | .tup ds => if ds.length = n then f ds else none
  | _ => none
theorem tg_tup {K : PySem.W.Frag} {gs : TGs} {fs : List D → Option (List (Nat × D))} {is : List Nat} (n : Nat) (h : TgsOk K gs fs is) : TgOk K (gTup K n gs) (bTup n fs) is := by
  intro G v d l r e
  cases r with
  | @tup a vs ds h1 h2 =>
    have e' : (if ds.length = n then fs ds else none) = some l := e
    by_cases hn : ds.length = n
    · rw [if_pos hn] at e'
      obtain ⟨lv, p1, i1, q1⟩ := h G vs ds l h2 e'
      exact ⟨lv, p1, i1, fun H σ Q s q => ⟨a, vs, rfl, Same.sqt s h1, by rw [h2.length]; exact hn, q1 H σ Q s q⟩⟩
    · rw [if_neg hn] at e'; cases e'
  | _ => cases e
theorem RS.set {K : PySem.W.Frag} {G : Hp} {σ : L2.St} {ρ : Env} {i : Nat} {v : V} {d : D} (h : RS K G σ ρ) (r : Rp K G v d) : RS K G (σ.set i (some v)) (ρ.set i (some d)) := by
  have hl := h.len
  refine ⟨by simpa using hl, ?_⟩
  intro j d' e
  by_cases hj : i = j
  · subst hj
    by_cases hi : i < ρ.length
    · rw [List.getElem?_set_self hi] at e
      cases e
      exact ⟨v, List.getElem?_set_self (Nat.lt_of_lt_of_le hi hl), r⟩
    · rw [List.getElem?_eq_none (by simpa using hi)] at e
      cases e
  · rw [List.getElem?_set_ne hj] at e
    obtain ⟨w, h1, h2⟩ := h.get j d' e
    exact ⟨w, by rw [List.getElem?_set_ne hj]; exact h1, h2⟩
theorem RS.setAll {K : PySem.W.Frag} {G : Hp} : ∀ {lv : List (Nat × V)} {l : List (Nat × D)} {σ : L2.St} {ρ : Env}, RpP K G lv l → RS K G σ ρ → RS K G (setAll σ lv) (setAllD ρ l)
  | _, _, _, _, .nil, h => h
  | (i, v) :: lv, (j, d) :: l, σ, ρ, .cons ⟨e, r⟩ p, h => by
    have e : i = j := e
    subst e
    exact RS.setAll (lv := lv) (l := l) p (h.set r)
/-! ### comprehensions -/
def wipeD (ρ : Env) : List Nat → Env
  | [] => ρ
  | v :: vs => (wipeD ρ vs).set v none
theorem wipeD_length (ρ : Env) : ∀ vs : List Nat, (wipeD ρ vs).length = ρ.length
  | [] => rfl
  | v :: vs => by unfold wipeD; rw [List.length_set, wipeD_length ρ vs]
theorem RS.wipe {K : PySem.W.Frag} {G : Hp} {σ : L2.St} {ρ : Env} (h : RS K G σ ρ) : ∀ vs : List Nat, RS K G (wipe σ vs) (wipeD ρ vs)
  | [] => h
  | v :: vs => by
    refine ⟨by rw [wipeD_length, wipe_length]; exact h.len, ?_⟩
    intro j d e
    have e' : ((wipeD ρ vs).set v none)[j]? = some (some d) := e
    have ih := RS.wipe h vs
    by_cases hj : v = j
    · subst hj
      by_cases hv : v < (wipeD ρ vs).length
      · rw [List.getElem?_set_self hv] at e'; cases e'
      · rw [List.getElem?_eq_none (by simpa using hv)] at e'; cases e'
    · rw [List.getElem?_set_ne hj] at e'
      obtain ⟨w, h1, h2⟩ := ih.get j d e'
      refine ⟨w, ?_, h2⟩
      show ((L2.wipe σ vs).set v none)[j]? = _
      rw [List.getElem?_set_ne hj]; exact h1
theorem wipe_set_in {σ : L2.St} {v : Nat} {x : Option V} : ∀ {vs : List Nat}, v ∈ vs → wipe (σ.set v x) vs = wipe σ vs
  | [], h => by cases h
  | u :: vs, h => by
    show (wipe (σ.set v x) vs).set u none = (wipe σ vs).set u none
    by_cases hv : v ∈ vs
    · rw [wipe_set_in hv]
    · have e : v = u := by
        rcases List.mem_cons.mp h with e | e
        · exact e
        · exact absurd e hv
      subst e
      have comm : ∀ (τ : L2.St) (ws : List Nat), v ∉ ws → wipe (τ.set v x) ws = (wipe τ ws).set v x := by
        intro τ ws
        induction ws with
        | nil => intro _; rfl
        | cons u ws ih =>
          intro hu
          have h1 : v ≠ u := fun z => hu (by simp [z])
          have h2 : v ∉ ws := fun z => hu (by simp [z])
          show (wipe (τ.set v x) ws).set u none = ((wipe τ ws).set u none).set v x
          rw [ih h2, List.set_comm _ _ h1]
      rw [comm σ vs hv, List.set_set]
theorem wipe_setAll {vs : List Nat} : ∀ {lv : List (Nat × V)} {σ : L2.St}, (∀ p ∈ lv, p.1 ∈ vs) → wipe (setAll σ lv) vs = wipe σ vs
  | [], _, _ => rfl
  | (i, v) :: r, σ, h => by
    show wipe (setAll (σ.set i (some v)) r) vs = wipe σ vs
    rw [wipe_setAll (fun p hp => h p (List.mem_cons_of_mem _ hp)), wipe_set_in (h (i, v) List.mem_cons_self)]
theorem wipe_wipe {σ : L2.St} : ∀ {vs ws : List Nat}, (∀ v ∈ vs, v ∈ ws) → wipe (wipe σ vs) ws = wipe σ ws
  | [], _, _ => rfl
  | v :: vs, ws, h => by
    show wipe ((wipe σ vs).set v none) ws = wipe σ ws
    rw [wipe_set_in (h v List.mem_cons_self), wipe_wipe fun u hu => h u (List.mem_cons_of_mem _ hu)]
theorem wipe_len (σ : L2.St) (vs : List Nat) : (wipe σ vs).length = σ.length := wipe_length σ vs
def compM (bs : D → Option (List (Nat × D))) (c : Env → M Bool) (e : Env → M D) (ρ : Env) : List D → M (List D)
  | [] => M.ret []
  | x :: xs => match bs x with
    | none => M.fail
    | some l => M.bind (c (setAllD ρ l)) fun k => if k = true then M.bind (e (setAllD ρ l)) fun y => M.bind (compM bs c e ρ xs) fun ys => M.ret (y :: ys) else compM bs c e ρ xs
abbrev DTs (X : Cx) (ifs : List Expr) (f : Env → M Bool) : Prop := PTs X ifs (tFT X.K f)
theorem PTsimp {X : Cx} {ifs : List Expr} {t t' : TT} (h : PTs X ifs t) (i : ∀ σ H Q, t' σ H Q → t σ H Q) : PTs X ifs t' := ⟨fun pins s σ H Q I q => h.run pins s σ H Q I (i σ H Q q)⟩
theorem dts_nil {X : Cx} : DTs X [] (fun _ => M.ret true) := by
  refine PTsimp pts_nil ?_
  rintro σ H Q ⟨ρ, G, b, ds, b', rs, fz, ob, e, q⟩
  cases e
  exact q _ _ (Nxt.refl fz ob)
theorem dts_one {X : Cx} {c : Expr} {f : Env → M Bool} (h : DT X c f) : DTs X [c] f := pts_one h
theorem lc_f {K : PySem.W.Frag} {gi : Env → M (List D)} {g : TG} {bs : D → Option (List (Nat × D))} {is vs : List Nat} {c : Env → M Bool} {e : Env → M D} (tg : TgOk K g bs is) (his : ∀ i ∈ is, i ∈ vs) :
    ∀ σ H Q, tN K (fun ρ => M.bind (gi ρ) fun xs => M.bind (compM bs c e (wipeD ρ vs) xs) fun ys => M.guard (szL ys) (M.ret ys)) σ H Q → tLc (iF K gi) g (tFT K c) (tF K e) vs σ H Q := by
  rintro σ H Q ⟨ρ, G, b, ds, b', rs, fz, ob, e0, q⟩
  obtain ⟨xs, b1, e1, e2⟩ := M.bind_some e0
  obtain ⟨ys, b2, e2, e3⟩ := M.bind_some e2
  obtain ⟨hz, e4⟩ := M.guard_some e3
  cases e4
  have hz1 : ds.length ≤ sizeLine := of_decide_eq_true hz
  refine ⟨ρ, G, b, xs, b1, rs, fz, ob, e1, fun J G1 H1 n1 yl Dd hD => ?_⟩
  have m0 : Nxt G1 H1 b1 G1 (upd H1 Dd (.lst [])) b1 := Nxt.newH n1.fz n1.bag hD
  refine ⟨fun i m H2 => m = xs.length - i ∧ i ≤ xs.length ∧ ∃ G2 bb accv acc rest, Nxt G H b G2 H2 bb ∧ Same G1 G2 ∧ G2 Dd = none ∧ H2 Dd = some (.lst accv) ∧ RpL K G2 accv acc ∧ compM bs c e (wipeD ρ vs) (xs.drop i) bb = some (rest, b') ∧ acc ++ rest = ds,
    ⟨xs.length, by simp, Nat.zero_le _, G1, b1, [], [], ds, n1.trans m0, fun _ _ h => h, gnone n1.fz hD, upd_same, .nil, by simpa using e2, rfl⟩, ?_⟩
  rintro i m H2 ⟨rfl, hi, G2, bb, accv, acc, rest, n2, s12, gD, hDd, ra, ec, ea⟩
  have Y := yl i G2 H2 bb s12 n2.fz n2.bag
  by_cases hlt : i < xs.length
  · have hx : xs[i]? = some xs[i] := List.getElem?_eq_getElem hlt
    have hdr : xs.drop i = xs[i] :: xs.drop (i + 1) := List.drop_eq_getElem_cons hlt
    obtain ⟨hgo, hy⟩ := Y.1 _ hx
    refine .inr ⟨hgo, fun H3 => ∃ G2 bb accv acc rest, Nxt G H b G2 H3 bb ∧ Same G1 G2 ∧ G2 Dd = none ∧ H3 Dd = some (.lst accv) ∧ RpL K G2 accv acc ∧ compM bs c e (wipeD ρ vs) (xs.drop (i + 1)) bb = some (rest, b') ∧ acc ++ rest = ds,
      fun H' h' => ⟨xs.length - (i + 1), by omega, rfl, hlt, h'⟩, fun x H3 hyl => ?_⟩
    obtain ⟨G3, n3, rx⟩ := hy x H3 hyl
    rw [hdr] at ec
    unfold compM at ec
    cases eb : bs xs[i] with
    | none => rw [eb] at ec; cases ec
    | some l =>
      rw [eb] at ec
      obtain ⟨lv, pl, il, gq⟩ := tg G3 x xs[i] l rx eb
      refine gq H3 _ _ n3.fz ?_
      have rsb : RS K G3 (setAll (wipe σ vs) lv) (setAllD (wipeD ρ vs) l) := by
        refine RS.setAll pl (RS.wipe (rs.mono ?_) vs)
        exact fun a o h => n3.gg a o (n2.gg a o h)
      refine ⟨?_, ?_⟩
      · rw [wipe_setAll fun p hp => his _ (il p hp)]
        exact wipe_wipe fun v hv => hv
      · obtain ⟨k, b3, ek, ec⟩ := M.bind_some ec
        have gD3 : G3 Dd = none := n3.new Dd _ hDd gD
        have nb : bb.at ≠ some Dd := by rw [← Bs.like_at n2.like]; exact bag_ne ob (n1.free hD)
        have hD3 : H3 Dd = some (.lst accv) := n3.keep Dd _ hDd nb
        refine ⟨_, G3, bb, k, b3, rsb, n3.fz, n3.bag, ek, fun G4 H4 n4 => ?_⟩
        have gD4 : G4 Dd = none := n4.new Dd _ hD3 gD3
        have hD4 : H4 Dd = some (.lst accv) := n4.keep Dd _ hD3 nb
        have nb3 : b3.at ≠ some Dd := by rw [← Bs.like_at n4.like]; exact nb
        cases k with
        | false =>
          refine iteF ⟨G4, b3, accv, acc, rest, (n2.trans n3).trans n4, fun a o h => n4.gg a o (n3.gg a o (s12 a o h)), gD4, hD4, (ra.mono n3.gg).mono n4.gg, ec, ea⟩
        | true =>
          refine iteT ?_
          obtain ⟨y, b4, ey, ec⟩ := M.bind_some ec
          obtain ⟨ys2, b5, ey2, ec⟩ := M.bind_some ec
          cases ec
          refine ⟨_, G4, b3, y, b4, rsb.mono n4.gg, n4.fz, n4.bag, ey, fun v G5 H5 n5 rv => ?_⟩
          have gD5 : G5 Dd = none := n5.new Dd _ hD4 gD4
          have hD5 : H5 Dd = some (.lst accv) := n5.keep Dd _ hD4 nb3
          have la : accv.length = acc.length := ra.length
          have lz : acc.length < sizeLine := by
            have := congrArg List.length ea
            simp at this
            omega
          refine ⟨accv, hD5, by rw [la]; exact lz, ?_⟩
          refine ⟨G5, b4, accv ++ [v], acc ++ [y], ys2, (((n2.trans n3).trans n4).trans n5).mut ob (n1.free hD) gD5, fun a o h => n5.gg a o (n4.gg a o (n3.gg a o (s12 a o h))), gD5, upd_same, (((ra.mono n3.gg).mono n4.gg).mono n5.gg).append (.cons rv .nil), ey2, ?_⟩
          rw [← ea]; simp
  · have e : i = xs.length := by omega
    subst e
    refine .inl ⟨Y.2 (Nat.le_refl _), ?_⟩
    have hr : xs.drop xs.length = [] := by simp
    rw [hr] at ec
    cases ec
    simp at ea
    subst ea
    exact q Dd accv G2 H2 n2 (n1.free hD) gD hDd ra
/-- [e for t in it if c] -/
theorem dn_lc {X : Cx} {elt tg iter : Expr} {ifs : List Expr} {scope : Scope} {own : List (Str × Nat)} {pos : Pos} {gi : Env → M (List D)} {g : TG} {bs : D → Option (List (Nat × D))} {is : List Nat} {c : Env → M Bool} {e : Env → M D}
    (hc : X.calm = true) (hN : X.N.Nodup) (hi : DI X tg iter gi) (ok : BlkOk X.N X.env.scope scope own) (ht : TgOk X.K g bs is) (his : is.all (fun i => (own.map (·.2)).contains i) = true)
    (hg : ∀ (s : Shared) (H : Hp) (C : Addr) (cl : List (Str × Addr)) (fp : List Addr), PG (X.blk s H scope (compEnvC scope cl C X.env) fp) tg g) (htt : ∀ (s : Shared) (H : Hp) (C : Addr) (cl : List (Str × Addr)) (fp : List Addr), DTs (X.blk s H scope (compEnvC scope cl C X.env) fp) ifs c)
    (he : ∀ (s : Shared) (H : Hp) (C : Addr) (cl : List (Str × Addr)) (fp : List Addr), DE (X.blk s H scope (compEnvC scope cl C X.env) fp) elt e) (hs : ∀ x, foldedSetIterable iter X.env x = pure x := by intro _; rfl) :
    DN X (.ListComp elt [⟨tg, iter, ifs, 0⟩] scope pos) (fun ρ => M.bind (gi ρ) fun xs => M.bind (compM bs c e (wipeD ρ (own.map (·.2))) xs) fun ys => M.guard (szL ys) (M.ret ys)) :=
  PEimp (pe_lc hc hN hi ok hg htt he hs) (lc_f ht fun i hi => by
    have := List.all_eq_true.mp his i hi
    simpa using this)
end DL
set_option Elab.async false
set_option maxRecDepth 100000
set_option autoImplicit false
set_option linter.unusedVariables false
set_option maxHeartbeats 4000000
namespace DL
open PySem L2
/-! ### the slots of a body: values, and lists of its own that it may change -/
inductive Slot where
  | val (d : D)
  | own (xs : List D)
def Slot.see : Slot → D
  | .val d => d
  | .own xs => .lst xs
abbrev Env2 := List (Option Slot)
def viewAt (ms : List Nat) : Nat → Env2 → Env
  | _, [] => []
  | i, s :: r => (if ms.contains i then s.map Slot.see else none) :: viewAt ms (i + 1) r
def view (ms : List Nat) (ρ : Env2) : Env := viewAt ms 0 ρ
def frzAt (ms : List Nat) : Nat → Env2 → Env2
  | _, [] => []
  | i, s :: r => (if ms.contains i then s.map (fun s => Slot.val s.see) else s) :: frzAt ms (i + 1) r
def frz (ms : List Nat) (ρ : Env2) : Env2 := frzAt ms 0 ρ
theorem viewAt_get (ms : List Nat) : ∀ (ρ : Env2) (k i : Nat), (viewAt ms k ρ)[i]? = ρ[i]?.map fun s => if ms.contains (k + i) then s.map Slot.see else none
  | [], k, i => by simp [viewAt]
  | s :: r, k, 0 => by simp [viewAt]
  | s :: r, k, i + 1 => by
    simp only [viewAt, List.getElem?_cons_succ]
    rw [viewAt_get ms r (k + 1) i, show k + 1 + i = k + (i + 1) by omega]
theorem frzAt_get (ms : List Nat) : ∀ (ρ : Env2) (k i : Nat), (frzAt ms k ρ)[i]? = ρ[i]?.map fun s => if ms.contains (k + i) then s.map (fun s => Slot.val s.see) else s
  | [], k, i => by simp [frzAt]
  | s :: r, k, 0 => by simp [frzAt]
  | s :: r, k, i + 1 => by
    simp only [frzAt, List.getElem?_cons_succ]
    rw [frzAt_get ms r (k + 1) i, show k + 1 + i = k + (i + 1) by omega]
theorem viewAt_len (ms : List Nat) : ∀ (ρ : Env2) (k : Nat), (viewAt ms k ρ).length = ρ.length
  | [], _ => rfl
  | _ :: r, k => by simp [viewAt, viewAt_len ms r]
theorem frzAt_len (ms : List Nat) : ∀ (ρ : Env2) (k : Nat), (frzAt ms k ρ).length = ρ.length
  | [], _ => rfl
  | _ :: r, k => by simp [frzAt, frzAt_len ms r]
theorem view_some {ms : List Nat} {ρ : Env2} {i : Nat} {d : D} (h : (view ms ρ)[i]? = some (some d)) : ms.contains i = true ∧ ∃ s, ρ[i]? = some (some s) ∧ s.see = d := by
  unfold view at h
  rw [viewAt_get, Nat.zero_add] at h
  cases e : ρ[i]? with
  | none => rw [e] at h; cases h
  | some o =>
    rw [e] at h
    simp only [Option.map_some, Option.some.injEq] at h
    cases hc : ms.contains i with
    | false => rw [hc] at h; cases h
    | true =>
      rw [hc] at h
      cases o with
      | none => cases h
      | some s => simp at h; exact ⟨rfl, s, rfl, h⟩
theorem frz_in {ms : List Nat} {ρ : Env2} {i : Nat} {s : Slot} (h : (frz ms ρ)[i]? = some (some s)) : (ms.contains i = true ∧ ∃ s0, ρ[i]? = some (some s0) ∧ s = .val s0.see) ∨ (ms.contains i = false ∧ ρ[i]? = some (some s)) := by
  unfold frz at h
  rw [frzAt_get, Nat.zero_add] at h
  cases e : ρ[i]? with
  | none => rw [e] at h; cases h
  | some o =>
    rw [e] at h
    simp only [Option.map_some, Option.some.injEq] at h
    cases hc : ms.contains i with
    | false => rw [hc] at h; simp at h; exact .inr ⟨rfl, by rw [h]⟩
    | true =>
      rw [hc] at h
      cases o with
      | none => cases h
      | some s0 => simp at h; exact .inl ⟨rfl, s0, rfl, h.symm⟩
/-! ### the state of a body since its entry -/
structure En where
  G : Hp
  H : Hp
  b : Bs
structure SI (K : PySem.W.Frag) (E : En) (σ : L2.St) (ρ : Env2) (G H : Hp) (b : Bs) : Prop where
  fz : Same G H
  g0 : Same E.G G
  new : ∀ a o, E.H a = some o → E.G a = none → G a = none
  keep : ∀ a o, E.H a = some o → E.b.at ≠ some a → H a = some o
  bag : BagOk G H b
  like : E.b.like b
  len : ρ.length ≤ σ.length
  val : ∀ (i : Nat) (d : D), ρ[i]? = some (some (Slot.val d)) → ∃ v, σ[i]? = some (some v) ∧ Rp K G v d
  own : ∀ (i : Nat) (xs : List D), ρ[i]? = some (some (Slot.own xs)) → ∃ (p : Addr) (vs : List V), σ[i]? = some (some (V.ref p)) ∧ E.H p = none ∧ G p = none ∧ H p = some (.lst vs) ∧ RpL K G vs xs ∧ b.at ≠ some p
  inj : ∀ (i j : Nat) (xs ys : List D) (p : Addr), ρ[i]? = some (some (Slot.own xs)) → ρ[j]? = some (some (Slot.own ys)) → σ[i]? = some (some (V.ref p)) → σ[j]? = some (some (V.ref p)) → i = j
section
variable {K : PySem.W.Frag} {E : En} {σ : L2.St} {ρ : Env2} {G H G' H' : Hp} {b b' : Bs}
theorem SI.nxt (I : SI K E σ ρ G H b) : Nxt E.G E.H E.b G H b := ⟨I.g0, I.fz, I.keep, I.new, I.bag, I.like⟩
theorem SI.step (I : SI K E σ ρ G H b) (n : Nxt G H b G' H' b') : SI K E σ ρ G' H' b' := by
  have t := I.nxt.trans n
  refine ⟨t.fz, t.gg, t.new, t.keep, t.bag, t.like, I.len, fun i d h => ?_, fun i xs h => ?_, I.inj⟩
  · obtain ⟨v, h1, h2⟩ := I.val i d h
    exact ⟨v, h1, h2.mono n.gg⟩
  · obtain ⟨p, vs, h1, h2, h3, h4, h5, h6⟩ := I.own i xs h
    exact ⟨p, vs, h1, h2, n.new p _ h4 h3, n.keep p _ h4 h6, h5.mono n.gg, by rw [← Bs.like_at n.like]; exact h6⟩
/-- the lists at the places ms, frozen for a while -/
noncomputable def gp (ms : List Nat) (σ : L2.St) (ρ : Env2) (G H : Hp) : Hp := fun a =>
  haveI := Classical.propDecidable (∃ (i : Nat) (xs : List D), ms.contains i = true ∧ ρ[i]? = some (some (Slot.own xs)) ∧ σ[i]? = some (some (V.ref a)))
  if ∃ (i : Nat) (xs : List D), ms.contains i = true ∧ ρ[i]? = some (some (Slot.own xs)) ∧ σ[i]? = some (some (V.ref a)) then H a else G a
theorem gp_in {ms : List Nat} {i : Nat} {xs : List D} {a : Addr} (h1 : ms.contains i = true) (h2 : ρ[i]? = some (some (Slot.own xs))) (h3 : σ[i]? = some (some (.ref a))) : gp ms σ ρ G H a = H a := by
  unfold gp
  exact if_pos ⟨i, xs, h1, h2, h3⟩
theorem gp_out {ms : List Nat} {a : Addr} (h : ¬ ∃ (i : Nat) (xs : List D), ms.contains i = true ∧ ρ[i]? = some (some (Slot.own xs)) ∧ σ[i]? = some (some (V.ref a))) : gp ms σ ρ G H a = G a := by
  unfold gp
  exact if_neg h
theorem SI.gp1 (I : SI K E σ ρ G H b) (ms : List Nat) : Same G (gp ms σ ρ G H) := fun a o h => by
  rw [gp_out]
  · exact h
  · rintro ⟨i, xs, _, h2, h3⟩
    obtain ⟨p, vs, e1, _, e3, _⟩ := I.own i xs h2
    rw [e1] at h3
    cases h3
    rw [h] at e3; cases e3
theorem SI.gp2 (I : SI K E σ ρ G H b) (ms : List Nat) : Same (gp ms σ ρ G H) H := fun a o h => by
  haveI := Classical.propDecidable (∃ (i : Nat) (xs : List D), ms.contains i = true ∧ ρ[i]? = some (some (Slot.own xs)) ∧ σ[i]? = some (some (V.ref a)))
  by_cases c : ∃ (i : Nat) (xs : List D), ms.contains i = true ∧ ρ[i]? = some (some (Slot.own xs)) ∧ σ[i]? = some (some (V.ref a))
  · obtain ⟨i, xs, h1, h2, h3⟩ := c
    rw [gp_in h1 h2 h3] at h
    exact h
  · rw [gp_out c] at h
    exact I.fz a o h
theorem SI.gpb (I : SI K E σ ρ G H b) (ms : List Nat) : BagOk (gp ms σ ρ G H) H b := by
  have ob := I.bag
  cases e : b with
  | none => trivial
  | some g =>
    rw [e] at ob
    refine ⟨?_, ob.2.1, I.gp1 ms _ _ ob.2.2⟩
    rw [gp_out]
    · exact ob.1
    · rintro ⟨i, xs, _, h2, h3⟩
      obtain ⟨p, vs, e1, _, _, _, _, e6⟩ := I.own i xs h2
      rw [e1] at h3
      cases h3
      rw [e] at e6
      exact e6 rfl
theorem SI.rs (I : SI K E σ ρ G H b) (ms : List Nat) : RS K (gp ms σ ρ G H) σ (view ms ρ) := by
  refine ⟨by unfold view; rw [viewAt_len]; exact I.len, fun i d h => ?_⟩
  obtain ⟨hm, s, hs, rfl⟩ := view_some h
  cases s with
  | val d =>
    obtain ⟨v, h1, h2⟩ := I.val i d hs
    exact ⟨v, h1, h2.mono (I.gp1 ms)⟩
  | own xs =>
    obtain ⟨p, vs, h1, h2, h3, h4, h5, h6⟩ := I.own i xs hs
    exact ⟨_, h1, .lst (by rw [gp_in hm hs h1]; exact h4) (h5.mono (I.gp1 ms))⟩
/-- behind an expression whose value holds no place: all as it was -/
theorem SI.flat (I : SI K E σ ρ G H b) {ms : List Nat} (n : Nxt (gp ms σ ρ G H) H b G' H' b') : SI K E σ ρ G H' b' := by
  have nb : ∀ a o, G a = some o → b.at ≠ some a := fun a o h z => by
    have ob := I.bag
    cases b with
    | none => cases z
    | some g => cases z; rw [ob.1] at h; cases h
  refine ⟨fun a o h => n.keep a o (I.fz a o h) (nb a o h), I.g0, I.new, fun a o h hb => n.keep a o (I.keep a o h hb) (by rw [← Bs.like_at I.like]; exact hb), ?_, Bs.like_trans I.like n.like, I.len, I.val, fun i xs h => ?_, I.inj⟩
  · have ob := I.bag
    have ob' := n.bag
    have l := n.like
    cases b with
    | none => cases b' with
      | none => trivial
      | some _ => exact l.elim
    | some g => cases b' with
      | none => exact l.elim
      | some g' =>
        obtain ⟨l1, l2, l3⟩ := l
        refine ⟨by rw [← l1]; exact ob.1, ob'.2.1, ?_⟩
        rw [← l2, ← l3]; exact ob.2.2
  · obtain ⟨p, vs, h1, h2, h3, h4, h5, h6⟩ := I.own i xs h
    exact ⟨p, vs, h1, h2, h3, n.keep p _ h4 h6, h5, by rw [← Bs.like_at n.like]; exact h6⟩
theorem SI.frz (I : SI K E σ ρ G H b) {ms : List Nat} (n : Nxt (gp ms σ ρ G H) H b G' H' b') : SI K E σ (frz ms ρ) G' H' b' := by
  have gg : Same G G' := fun a o h => n.gg a o (I.gp1 ms a o h)
  refine ⟨n.fz, fun a o h => gg a o (I.g0 a o h), fun a o h hn => ?_, fun a o h hb => n.keep a o (I.keep a o h hb) (by rw [← Bs.like_at I.like]; exact hb), n.bag, Bs.like_trans I.like n.like,
    by unfold DL.frz; rw [frzAt_len]; exact I.len, fun i d h => ?_, fun i xs h => ?_, fun i j xs ys p h1 h2 h3 h4 => ?_⟩
  · by_cases z : E.b.at = some a
    · have z2 : b'.at = some a := by rw [← Bs.like_at (Bs.like_trans I.like n.like)]; exact z
      have ob' := n.bag
      cases b' with
      | none => cases z2
      | some g => cases z2; exact ob'.1
    · refine n.new a o (I.keep a o h z) ?_
      rw [gp_out]
      · exact I.new a o h hn
      · rintro ⟨i, xs, _, h2, h3⟩
        obtain ⟨p, vs, e1, e2, _⟩ := I.own i xs h2
        rw [e1] at h3
        cases h3
        rw [h] at e2; cases e2
  · rcases frz_in h with ⟨hm, s0, hs, e⟩ | ⟨hm, hs⟩
    · cases e
      obtain ⟨v, h1, h2⟩ := (I.rs ms).get i s0.see (by
        unfold view
        rw [viewAt_get, hs, Nat.zero_add, hm]
        rfl)
      exact ⟨v, h1, h2.mono n.gg⟩
    · obtain ⟨v, h1, h2⟩ := I.val i d hs
      exact ⟨v, h1, h2.mono gg⟩
  · rcases frz_in h with ⟨hm, s0, hs, e⟩ | ⟨hm, hs⟩
    · cases e
    · obtain ⟨p, vs, h1, h2, h3, h4, h5, h6⟩ := I.own i xs hs
      refine ⟨p, vs, h1, h2, n.new p _ h4 ?_, n.keep p _ h4 h6, h5.mono gg, by rw [← Bs.like_at n.like]; exact h6⟩
      rw [gp_out]
      · exact h3
      · rintro ⟨j, ys, e1, e2, e3⟩
        have := I.inj i j xs ys p hs e2 h1 e3
        subst this
        rw [hm] at e1; cases e1
  · rcases frz_in h1 with ⟨hm, s0, hs, e⟩ | ⟨hm, hs⟩
    · cases e
    · rcases frz_in h2 with ⟨hm', s0, hs', e⟩ | ⟨hm', hs'⟩
      · cases e
      · exact I.inj i j xs ys p hs hs' h3 h4
theorem SI.set (I : SI K E σ ρ G H b) {i : Nat} {v : V} {d : D} (r : Rp K G v d) : SI K E (σ.set i (some v)) (ρ.set i (some (.val d))) G H b := by
  have old : ∀ (j : Nat) (s : Slot), i ≠ j → (ρ.set i (some (.val d)))[j]? = some (some s) → ρ[j]? = some (some s) := fun j s hj h => by
    rw [List.getElem?_set_ne hj] at h; exact h
  have self : ∀ (s : Slot), (ρ.set i (some (.val d)))[i]? = some (some s) → s = .val d ∧ i < ρ.length := fun s h => by
    by_cases hi : i < ρ.length
    · rw [List.getElem?_set_self hi] at h; cases h; exact ⟨rfl, hi⟩
    · rw [List.getElem?_eq_none (by simpa using hi)] at h; cases h
  refine ⟨I.fz, I.g0, I.new, I.keep, I.bag, I.like, by simpa using I.len, fun j d' h => ?_, fun j xs h => ?_, fun j k xs ys p h1 h2 h3 h4 => ?_⟩
  · by_cases hj : i = j
    · subst hj
      obtain ⟨e, hi⟩ := self _ h
      cases e
      exact ⟨v, List.getElem?_set_self (Nat.lt_of_lt_of_le hi I.len), r⟩
    · obtain ⟨w, e1, e2⟩ := I.val j d' (old j _ hj h)
      exact ⟨w, by rw [List.getElem?_set_ne hj]; exact e1, e2⟩
  · by_cases hj : i = j
    · subst hj
      obtain ⟨e, hi⟩ := self _ h
      cases e
    · obtain ⟨p, vs, e1, e2⟩ := I.own j xs (old j _ hj h)
      exact ⟨p, vs, by rw [List.getElem?_set_ne hj]; exact e1, e2⟩
  · by_cases hj : i = j
    · subst hj; obtain ⟨e, hi⟩ := self _ h1; cases e
    · by_cases hk : i = k
      · subst hk; obtain ⟨e, hi⟩ := self _ h2; cases e
      · rw [List.getElem?_set_ne hj] at h3
        rw [List.getElem?_set_ne hk] at h4
        exact I.inj j k xs ys p (old j _ hj h1) (old k _ hk h2) h3 h4
theorem SI.setOwn (I : SI K E σ ρ G H b) {i : Nat} {p : Addr} {vs : List V} {xs : List D} (h0 : E.H p = none) (gp : G p = none) (hp : H p = some (.lst vs)) (r : RpL K G vs xs) (nb : b.at ≠ some p)
    (nw : ∀ (j : Nat) (ys : List D), j ≠ i → ρ[j]? = some (some (Slot.own ys)) → σ[j]? ≠ some (some (V.ref p))) : SI K E (σ.set i (some (.ref p))) (ρ.set i (some (.own xs))) G H b := by
  have old : ∀ (j : Nat) (s : Slot), i ≠ j → (ρ.set i (some (.own xs)))[j]? = some (some s) → ρ[j]? = some (some s) := fun j s hj h => by
    rw [List.getElem?_set_ne hj] at h; exact h
  have self : ∀ (s : Slot), (ρ.set i (some (.own xs)))[i]? = some (some s) → s = .own xs ∧ i < ρ.length := fun s h => by
    by_cases hi : i < ρ.length
    · rw [List.getElem?_set_self hi] at h; cases h; exact ⟨rfl, hi⟩
    · rw [List.getElem?_eq_none (by simpa using hi)] at h; cases h
  refine ⟨I.fz, I.g0, I.new, I.keep, I.bag, I.like, by simpa using I.len, fun j d' h => ?_, fun j ys h => ?_, fun j k ys zs q h1 h2 h3 h4 => ?_⟩
  · by_cases hj : i = j
    · subst hj; obtain ⟨e, hi⟩ := self _ h; cases e
    · obtain ⟨w, e1, e2⟩ := I.val j d' (old j _ hj h)
      exact ⟨w, by rw [List.getElem?_set_ne hj]; exact e1, e2⟩
  · by_cases hj : i = j
    · subst hj
      obtain ⟨e, hi⟩ := self _ h
      cases e
      exact ⟨p, vs, List.getElem?_set_self (Nat.lt_of_lt_of_le hi I.len), h0, gp, hp, r, nb⟩
    · obtain ⟨q, ws, e1, e2⟩ := I.own j ys (old j _ hj h)
      exact ⟨q, ws, by rw [List.getElem?_set_ne hj]; exact e1, e2⟩
  · by_cases hj : i = j
    · subst hj
      by_cases hk : i = k
      · exact hk
      · obtain ⟨e, hi⟩ := self _ h1
        rw [List.getElem?_set_self (Nat.lt_of_lt_of_le hi I.len)] at h3
        rw [List.getElem?_set_ne hk] at h4
        cases h3
        exact absurd h4 (nw k zs (Ne.symm hk) (old k _ hk h2))
    · by_cases hk : i = k
      · subst hk
        obtain ⟨e, hi⟩ := self _ h2
        rw [List.getElem?_set_self (Nat.lt_of_lt_of_le hi I.len)] at h4
        rw [List.getElem?_set_ne hj] at h3
        cases h4
        exact absurd h3 (nw j ys (Ne.symm hj) (old j _ hj h1))
      · rw [List.getElem?_set_ne hj] at h3
        rw [List.getElem?_set_ne hk] at h4
        exact I.inj j k ys zs q (old j _ hj h1) (old k _ hk h2) h3 h4
/-- a list of its own becomes another one -/
theorem SI.mut (I : SI K E σ ρ G H b) {i : Nat} {p : Addr} {vs : List V} {xs ys : List D} (hi : ρ[i]? = some (some (.own xs))) (hs : σ[i]? = some (some (.ref p))) (r : RpL K G vs ys) : SI K E σ (ρ.set i (some (.own ys))) G (upd H p (.lst vs)) b := by
  obtain ⟨q, ws, e1, e2, e3, e4, e5, e6⟩ := I.own i xs hi
  rw [hs] at e1
  cases e1
  have old : ∀ (j : Nat) (s : Slot), i ≠ j → (ρ.set i (some (.own ys)))[j]? = some (some s) → ρ[j]? = some (some s) := fun j s hj h => by
    rw [List.getElem?_set_ne hj] at h; exact h
  have hil : i < ρ.length := (List.getElem?_eq_some_iff.mp hi).1
  refine ⟨fun a o h => ?_, I.g0, I.new, fun a o h hb => ?_, ?_, I.like, by simpa using I.len, fun j d' h => ?_, fun j zs h => ?_, fun j k as bs q h1 h2 h3 h4 => ?_⟩
  · rw [upd_ne (ne_of_none h e3)]; exact I.fz a o h
  · rw [upd_ne (ne_of_none h e2)]; exact I.keep a o h hb
  · have ob := I.bag
    cases b with
    | none => trivial
    | some g =>
      refine ⟨ob.1, ?_, ob.2.2⟩
      rw [upd_ne fun z => e6 (by rw [← z]; rfl)]
      exact ob.2.1
  · by_cases hj : i = j
    · subst hj; rw [List.getElem?_set_self hil] at h; cases h
    · exact I.val j d' (old j _ hj h)
  · by_cases hj : i = j
    · subst hj
      rw [List.getElem?_set_self hil] at h
      cases h
      exact ⟨p, vs, hs, e2, e3, upd_same, r, e6⟩
    · obtain ⟨q, ws', f1, f2, f3, f4, f5, f6⟩ := I.own j zs (old j _ hj h)
      refine ⟨q, ws', f1, f2, f3, ?_, f5, f6⟩
      rw [upd_ne]
      · exact f4
      · rintro rfl
        exact hj (I.inj i j xs zs q hi (old j _ hj h) hs f1)
  · by_cases hj : i = j
    · subst hj
      by_cases hk : i = k
      · exact hk
      · exact I.inj i k xs bs q hi (old k _ hk h2) h3 h4
    · by_cases hk : i = k
      · subst hk; exact I.inj j i as xs q (old j _ hj h1) hi h3 h4
      · exact I.inj j k as bs q (old j _ hj h1) (old k _ hk h2) h3 h4
def setAll2 (ρ : Env2) : List (Nat × D) → Env2
  | [] => ρ
  | (i, d) :: r => setAll2 (ρ.set i (some (.val d))) r
theorem SI.setAll : ∀ {lv : List (Nat × V)} {l : List (Nat × D)} {σ : L2.St} {ρ : Env2}, RpP K G lv l → SI K E σ ρ G H b → SI K E (setAll σ lv) (setAll2 ρ l) G H b
  | _, _, _, _, .nil, h => h
  | (i, v) :: lv, (j, d) :: l, σ, ρ, .cons ⟨e, r⟩ p, h => by
    have e : i = j := e
    subst e
    exact SI.setAll (lv := lv) (l := l) p (h.set r)
/-- the entry, with what is frozen since -/
theorem SI.up (I : SI K E σ ρ G H b) : SI K ⟨G, E.H, E.b⟩ σ ρ G H b := ⟨I.fz, fun _ _ h => h, fun a o _ h => h, I.keep, I.bag, I.like, I.len, I.val, I.own, I.inj⟩
theorem SI.down {G1 H1 : Hp} {b1 : Bs} {σ1 : L2.St} {ρ1 : Env2} (I : SI K E σ1 ρ1 G1 H1 b1) (J : SI K ⟨G1, E.H, E.b⟩ σ ρ G H b) : SI K E σ ρ G H b :=
  ⟨J.fz, fun a o h => J.g0 a o (I.g0 a o h), fun a o h hn => J.new a o h (I.new a o h hn), J.keep, J.bag, J.like, J.len, J.val, J.own, J.inj⟩
theorem SI.downN {G1 H1 : Hp} {b1 : Bs} {σ1 : L2.St} {ρ1 : Env2} (I : SI K E σ1 ρ1 G1 H1 b1) (n : Nxt G1 E.H E.b G' H' b') : Nxt E.G E.H E.b G' H' b' :=
  ⟨fun a o h => n.gg a o (I.g0 a o h), n.fz, n.keep, fun a o h hn => n.new a o h (I.new a o h hn), n.bag, n.like⟩
end
/-! ### statements -/
inductive Out where
  | nx (ρ : Env2) | rt (d : D) | rn (xs : List D) | bk (ρ : Env2) | ct (ρ : Env2)
def Fin (K : PySem.W.Frag) (E : En) (Dn : Ends) (b' : Bs) : Out → Prop
  | .nx ρ => ∀ σ' G' H', SI K E σ' ρ G' H' b' → Dn.nx σ' H'
  | .bk ρ => ∀ σ' G' H', SI K E σ' ρ G' H' b' → Dn.bk σ' H'
  | .ct ρ => ∀ σ' G' H', SI K E σ' ρ G' H' b' → Dn.ct σ' H'
  | .rt d => ∀ v G' H', Nxt E.G E.H E.b G' H' b' → Rp K G' v d → Dn.rt v H'
  | .rn xs => ∀ p vs G' H', Nxt E.G E.H E.b G' H' b' → E.H p = none → G' p = none → H' p = some (.lst vs) → RpL K G' vs xs → Dn.rt (.ref p) H'
def tS (K : PySem.W.Frag) (F : Env2 → M Out) : TS := fun Dn σ H => ∃ E ρ G b o b', SI K E σ ρ G H b ∧ F ρ b = some (o, b') ∧ Fin K E Dn b' o
abbrev DS (X : Cx) (st : Stmt) (F : Env2 → M Out) : Prop := PS X st (tS X.K F)
abbrev DSs (X : Cx) (st : List Stmt) (F : Env2 → M Out) : Prop := PSs X st (tS X.K F)
theorem PSimp {X : Cx} {e : Stmt} {t t' : TS} (h : PS X e t) (i : ∀ D σ H, t' D σ H → t D σ H) : PS X e t' := ⟨fun pins s σ H D I q => h.run pins s σ H D I (i D σ H q)⟩
theorem PSsimp {X : Cx} {e : List Stmt} {t t' : TS} (h : PSs X e t) (i : ∀ D σ H, t' D σ H → t D σ H) : PSs X e t' := ⟨fun pins s σ H D I q => h.run pins s σ H D I (i D σ H q)⟩
def seqM (F1 F2 : Env2 → M Out) (ρ : Env2) : M Out := M.bind (F1 ρ) fun o => match o with
  | .nx ρ1 => F2 ρ1
  | o => M.ret o
section
variable {X : Cx} {st : Stmt} {rest : List Stmt} {F F2 : Env2 → M Out} {pos : Pos}
theorem ss_nil : DSs X [] (fun ρ => M.ret (.nx ρ)) := by
  refine PSsimp pss_nil ?_
  rintro D σ H ⟨E, ρ, G, b, o, b', I, e, q⟩
  cases e
  exact q σ G H I
theorem ss_one (h : DS X st F) : DSs X [st] F := pss_one h
theorem ss_cons (h : DS X st F) (h2 : DSs X rest F2) : DSs X (st :: rest) (seqM F F2) := by
  refine PSsimp (pss_cons h h2) ?_
  rintro D σ H ⟨E, ρ, G, b, o, b', I, e, q⟩
  obtain ⟨o1, b1, e1, e2⟩ := M.bind_some e
  refine ⟨E, ρ, G, b, o1, b1, I, e1, ?_⟩
  cases o1 with
  | nx ρ1 => exact fun σ' G' H' I' => ⟨E, ρ1, G', b1, o, b', I', e2, q⟩
  | bk ρ1 => cases e2; exact q
  | ct ρ1 => cases e2; exact q
  | rt d => cases e2; exact q
  | rn xs => cases e2; exact q
theorem s_pass : DS X (.Pass pos) (fun ρ => M.ret (.nx ρ)) := by
  refine PSimp ps_pass ?_
  rintro D σ H ⟨E, ρ, G, b, o, b', I, e, q⟩
  cases e
  exact q σ G H I
theorem s_break : DS X (.Break pos) (fun ρ => M.ret (.bk ρ)) := by
  refine PSimp ps_break ?_
  rintro D σ H ⟨E, ρ, G, b, o, b', I, e, q⟩
  cases e
  exact q σ G H I
theorem s_continue : DS X (.Continue pos) (fun ρ => M.ret (.ct ρ)) := by
  refine PSimp ps_continue ?_
  rintro D σ H ⟨E, ρ, G, b, o, b', I, e, q⟩
  cases e
  exact q σ G H I
def ifM (ms : List Nat) (t : Env → M Bool) (F F2 : Env2 → M Out) (ρ : Env2) : M Out := M.bind (t (view ms ρ)) fun k => if k = true then F ρ else F2 ρ
theorem s_if (ms : List Nat) {c : Expr} {a b : List Stmt} {t : Env → M Bool} (hc : DT X c t) (ha : DSs X a F) (hb : DSs X b F2) : DS X (.If c a b pos) (ifM ms t F F2) := by
  refine PSimp (ps_if hc ha hb) ?_
  rintro D σ H ⟨E, ρ, G, b, o, b', I, e, q⟩
  obtain ⟨k, b1, e1, e2⟩ := M.bind_some e
  refine ⟨_, _, b, k, b1, I.rs ms, I.gp2 ms, I.gpb ms, e1, fun G1 H1 n1 => ?_⟩
  have I1 := I.flat n1
  cases k with
  | true => exact iteT ⟨E, ρ, G, b1, o, b', I1, e2, q⟩
  | false => exact iteF ⟨E, ρ, G, b1, o, b', I1, e2, q⟩
def keepIf (c : Bool) (ms : List Nat) (ρ : Env2) : Env2 := if c = true then ρ else frz ms ρ
theorem SI.after {K : PySem.W.Frag} {E : En} {σ : L2.St} {ρ : Env2} {G H G' H' : Hp} {b b' : Bs} (I : SI K E σ ρ G H b) {ms : List Nat} (n : Nxt (gp ms σ ρ G H) H b G' H' b') {v : V} {d : D} (r : Rp K G' v d) :
    ∃ G2, SI K E σ (keepIf d.flat ms ρ) G2 H' b' ∧ Rp K G2 v d := by
  unfold keepIf
  cases e : d.flat with
  | true => exact ⟨G, I.flat n, r.flat_any e⟩
  | false => exact ⟨G', I.frz n, r⟩
def setM (i : Nat) (ms : List Nat) (f : Env → M D) (ρ : Env2) : M Out := M.bind (f (view ms ρ)) fun d => M.ret (.nx ((keepIf d.flat ms ρ).set i (some (.val d))))
theorem s_set (i : Nat) (ms : List Nat) {x : Str} {e : Expr} {f : Env → M D} {pos' : Pos} (hN : X.N.Nodup) (hi : X.N[i]? = some x) (hx : Loc X.env.scope x) (he : DE X e f) (hs : swapsWith e (some (.Name x pos')) pos.line X.env = pure false := by rfl)
    (hf : X.fn x = true ∨ X.env.scope.names.lookup x = some .local := by first | exact .inl rfl | exact .inr rfl | assumption) : DS X (.Assign [.Name x pos'] e pos) (setM i ms f) := by
  refine PSimp (ps_set hN hi hx he hs hf) ?_
  rintro D σ H ⟨E, ρ, G, b, o, b', I, e, q⟩
  obtain ⟨d, b1, e1, e2⟩ := M.bind_some e
  cases e2
  refine ⟨_, _, b, d, b', I.rs ms, I.gp2 ms, I.gpb ms, e1, fun v G1 H1 n1 r => ?_⟩
  obtain ⟨G2, I2, r2⟩ := I.after n1 r
  exact q _ G2 H1 (I2.set r2)
theorem SI.fresh {K : PySem.W.Frag} {E : En} {σ : L2.St} {ρ : Env2} {G H : Hp} {b : Bs} (I : SI K E σ ρ G H b) {p : Addr} (hp : H p = none) : E.H p = none := I.nxt.free hp
theorem SI.afterN {K : PySem.W.Frag} {E : En} {σ : L2.St} {ρ : Env2} {G H G' H' : Hp} {b b' : Bs} (I : SI K E σ ρ G H b) {ms : List Nat} (n : Nxt (gp ms σ ρ G H) H b G' H' b') {vs : List V} {xs : List D} (r : RpL K G' vs xs) {p : Addr} (gn : G' p = none) (hp : H p = none) :
    ∃ G2, SI K E σ (keepIf (xs.all D.flat) ms ρ) G2 H' b' ∧ RpL K G2 vs xs ∧ G2 p = none := by
  unfold keepIf
  cases e : xs.all D.flat with
  | true => exact ⟨G, I.flat n, r.flat_any e, gnone I.fz hp⟩
  | false => exact ⟨G', I.frz n, r, gn⟩
def setNM (i : Nat) (ms : List Nat) (f : Env → M (List D)) (ρ : Env2) : M Out := M.bind (f (view ms ρ)) fun xs => M.ret (.nx ((keepIf (xs.all D.flat) ms ρ).set i (some (.own xs))))
theorem keepIf_own {c : Bool} {ms : List Nat} {ρ : Env2} {j : Nat} {ys : List D} (h : (keepIf c ms ρ)[j]? = some (some (.own ys))) : ρ[j]? = some (some (.own ys)) := by
  unfold keepIf at h
  cases c with
  | true => exact h
  | false =>
    rcases frz_in (show (frz ms ρ)[j]? = _ from h) with ⟨_, s0, _, e⟩ | ⟨_, e⟩
    · cases e
    · exact e
theorem SI.newOwn {K : PySem.W.Frag} {E : En} {σ : L2.St} {ρ : Env2} {G H G' H' : Hp} {b b' : Bs} (I : SI K E σ ρ G H b) {ms : List Nat} (n : Nxt (gp ms σ ρ G H) H b G' H' b') {vs : List V} {xs : List D} (i : Nat) {p : Addr} (hp : H p = none) (gn : G' p = none) (hh : H' p = some (.lst vs)) (r : RpL K G' vs xs) :
    ∃ G2, SI K E (σ.set i (some (.ref p))) ((keepIf (xs.all D.flat) ms ρ).set i (some (.own xs))) G2 H' b' := by
  obtain ⟨G2, I2, r2, g2⟩ := I.afterN n r gn hp
  refine ⟨G2, I2.setOwn (I.fresh hp) g2 hh r2 (by rw [← Bs.like_at n.like]; exact bag_ne I.bag hp) fun j ys hj h h' => ?_⟩
  obtain ⟨p2, vs2, e1, _, _, e4, _⟩ := I.own j ys (keepIf_own h)
  rw [e1] at h'
  cases h'
  rw [hp] at e4; cases e4
theorem s_setN (i : Nat) (ms : List Nat) {x : Str} {e : Expr} {f : Env → M (List D)} {pos' : Pos} (hN : X.N.Nodup) (hi : X.N[i]? = some x) (hx : Loc X.env.scope x) (he : DN X e f) (hs : swapsWith e (some (.Name x pos')) pos.line X.env = pure false := by rfl)
    (hf : X.fn x = true ∨ X.env.scope.names.lookup x = some .local := by first | exact .inl rfl | exact .inr rfl | assumption) : DS X (.Assign [.Name x pos'] e pos) (setNM i ms f) := by
  refine PSimp (ps_set hN hi hx he hs hf) ?_
  rintro D σ H ⟨E, ρ, G, b, o, b', I, e, q⟩
  obtain ⟨xs, b1, e1, e2⟩ := M.bind_some e
  cases e2
  refine ⟨_, _, b, xs, b', I.rs ms, I.gp2 ms, I.gpb ms, e1, fun p vs G1 H1 n1 hp gn hh r => ?_⟩
  obtain ⟨G2, I2⟩ := I.newOwn n1 i hp gn hh r
  exact q _ G2 H1 I2
def retM (ms : List Nat) (f : Env → M D) (ρ : Env2) : M Out := M.bind (f (view ms ρ)) fun d => M.ret (.rt d)
theorem s_ret (ms : List Nat) {e : Expr} {f : Env → M D} (he : DE X e f) : DS X (.Return (some e) pos) (retM ms f) := by
  refine PSimp (ps_ret he) ?_
  rintro D σ H ⟨E, ρ, G, b, o, b', I, e, q⟩
  obtain ⟨d, b1, e1, e2⟩ := M.bind_some e
  cases e2
  exact ⟨_, _, b, d, b', I.rs ms, I.gp2 ms, I.gpb ms, e1, fun v G1 H1 n1 r => q v G1 H1 (I.frz n1).nxt r⟩
def retNM (ms : List Nat) (f : Env → M (List D)) (ρ : Env2) : M Out := M.bind (f (view ms ρ)) fun d => M.ret (.rn d)
theorem s_retN (ms : List Nat) {e : Expr} {f : Env → M (List D)} (he : DN X e f) : DS X (.Return (some e) pos) (retNM ms f) := by
  refine PSimp (ps_ret he) ?_
  rintro D σ H ⟨E, ρ, G, b, o, b', I, e, q⟩
  obtain ⟨xs, b1, e1, e2⟩ := M.bind_some e
  cases e2
  exact ⟨_, _, b, xs, b', I.rs ms, I.gp2 ms, I.gpb ms, e1, fun p vs G1 H1 n1 hp gn hh r => q p vs G1 H1 (I.frz n1).nxt (I.fresh hp) gn hh r⟩
def retOwn (i : Nat) (ρ : Env2) : M Out := match ρ[i]? with
  | some (some (.own xs)) => M.ret (.rn xs)
  | some (some (.val d)) => M.ret (.rt d)
  | _ => M.fail
theorem retOwn_some {i : Nat} {ρ : Env2} {b b' : Bs} {o : Out} (h : retOwn i ρ b = some (o, b')) : b = b' ∧ ((∃ xs, ρ[i]? = some (some (.own xs)) ∧ o = .rn xs) ∨ ∃ d, ρ[i]? = some (some (.val d)) ∧ o = .rt d) := by
  unfold retOwn at h
  cases e : ρ[i]? with
  | none => rw [e] at h; cases h
  | some s =>
    cases s with
    | none => rw [e] at h; cases h
    | some s =>
      cases s with
      | own xs => rw [e] at h; cases h; exact ⟨rfl, .inl ⟨xs, rfl, rfl⟩⟩
      | val d => rw [e] at h; cases h; exact ⟨rfl, .inr ⟨d, rfl, rfl⟩⟩
theorem s_retOwn (i : Nat) {x : Str} {p : Pos} (hN : X.N[i]? = some x := by rfl) (hv : Vis X.env.scope x := by first | exact Or.inl rfl | exact Or.inr (Or.inl rfl) | exact Or.inr (Or.inr rfl)) (hd : (x == ("__debug__" : Str)) = false := by decide)
    (hcd : (x == ("__classdict__" : Str)) = false := by decide) : DS X (.Return (some (.Name x p)) pos) (retOwn i) := by
  refine PSimp (ps_ret (pe_var hN hv hd hcd)) ?_
  rintro D σ H ⟨E, ρ, G, b, o, b', I, e, q⟩
  obtain ⟨rfl, h⟩ := retOwn_some e
  rcases h with ⟨xs, h, rfl⟩ | ⟨d, h, rfl⟩
  · obtain ⟨p, vs, h1, h2, h3, h4, h5, h6⟩ := I.own i xs h
    exact ⟨_, h1, q p vs G H I.nxt h2 h3 h4 h5⟩
  · obtain ⟨v, h1, h2⟩ := I.val i d h
    exact ⟨_, h1, q v G H I.nxt h2⟩
theorem s_retNone : DS X (.Return none pos) (fun _ => M.ret (.rt .non)) := by
  refine PSimp ps_retN ?_
  rintro D σ H ⟨E, ρ, G, b, o, b', I, e, q⟩
  cases e
  exact q _ G H I.nxt .non
def dropM (ms : List Nat) (f : Env → M D) (ρ : Env2) : M Out := M.bind (f (view ms ρ)) fun _ => M.ret (.nx ρ)
theorem s_expr (ms : List Nat) {e : Expr} {f : Env → M D} (he : DE X e f) (hs : swapsWith e none pos.line X.env = pure false := by rfl) : DS X (.Expr e pos) (dropM ms f) := by
  refine PSimp (ps_expr he hs) ?_
  rintro D σ H ⟨E, ρ, G, b, o, b', I, e, q⟩
  obtain ⟨d, b1, e1, e2⟩ := M.bind_some e
  cases e2
  exact ⟨_, _, b, d, b', I.rs ms, I.gp2 ms, I.gpb ms, e1, fun v G1 H1 n1 r => q _ G H1 (I.flat n1)⟩
def appM (j : Nat) (ms : List Nat) (f : Env → M D) (ρ : Env2) : M Out := M.bind (f (view ms ρ)) fun d => match (keepIf d.flat ms ρ)[j]? with
  | some (some (.own xs)) => M.guard (decide (xs.length < sizeLine)) (M.ret (.nx ((keepIf d.flat ms ρ).set j (some (.own (xs ++ [d]))))))
  | _ => M.fail
theorem s_append (j : Nat) (ms : List Nat) {x : Str} {e : Expr} {f : Env → M D} {p apos cpos : Pos} (he : DE X e f) (hN : X.N[j]? = some x := by rfl) (hv : Vis X.env.scope x := by first | exact Or.inl rfl | exact Or.inr (Or.inl rfl) | exact Or.inr (Or.inr rfl))
    (hd : (x == ("__debug__" : Str)) = false := by decide) (hcd : (x == ("__classdict__" : Str)) = false := by decide) (hst : starEach [e] X.env = (false, eval e X.env) :: starEach [] X.env := by rfl)
    (hbase : attributeBase (.Name x p) "append" X.env (eval (.Name x p) X.env) = eval (.Name x p) X.env := by rfl)
    (hfew : ((backTo cpos (starEach [e] X.env)).all (fun x => !x.1) && (backToKw cpos (keywordEach [] X.env)).all (fun x => x.1.isSome) && decide (([e].length + ([] : List Keyword).length + if ([] : List Keyword).isEmpty = true then 0 else 1) < 30)) = true := by rfl)
    (hline : (apos.endLine == cpos.line) = true := by rfl) (hs : swapsWith (.Call (.Attribute (.Name x p) "append" apos) [e] [] cpos) none pos.line X.env = pure false := by rfl) :
    DS X (.Expr (.Call (.Attribute (.Name x p) "append" apos) [e] [] cpos) pos) (appM j ms f) := by
  refine PSimp (ps_expr (pe_bm PySem.F.plainAttrs_list PySem.F.slot_list_append PySem.F.type_list_append mt_append (pe_var hN hv hd hcd) (pa_cons he pa_nil hst) hbase hfew hline hst) hs) ?_
  rintro D σ H ⟨E, ρ, G, b, o, b', I, e, q⟩
  obtain ⟨d, b1, e1, e2⟩ := M.bind_some e
  cases ej : (keepIf d.flat ms ρ)[j]? with
  | none => rw [ej] at e2; cases e2
  | some s =>
    cases s with
    | none => rw [ej] at e2; cases e2
    | some s =>
      cases s with
      | val d => rw [ej] at e2; cases e2
      | own xs =>
        rw [ej] at e2
        obtain ⟨hz, e3⟩ := M.guard_some e2
        cases e3
        obtain ⟨p, vs, h1, h2, h3, h4, h5, h6⟩ := I.own j xs (keepIf_own ej)
        refine ⟨_, h1, Or.inl ⟨rfl, vs, SqL.of h4⟩, ?_⟩
        refine ⟨_, _, b, d, b', I.rs ms, I.gp2 ms, I.gpb ms, e1, fun v G1 H1 n1 r => ?_⟩
        obtain ⟨G2, I2, r2⟩ := I.after n1 r
        obtain ⟨p', vs', f1, f2, f3, f4, f5, f6⟩ := I2.own j xs ej
        rw [h1] at f1
        cases f1
        refine ⟨p, vs', v, rfl, rfl, f4, by rw [f5.length]; exact of_decide_eq_true hz, ?_⟩
        exact q σ G2 _ (I2.mut ej h1 (f5.append (.cons r2 .nil)))
def loopM (bs : D → Option (List (Nat × D))) (body : Env2 → M Out) : List D → Env2 → M Out
  | [], ρ => M.ret (.nx ρ)
  | x :: xs, ρ => match bs x with
    | none => M.fail
    | some l => M.bind (body (setAll2 ρ l)) fun o => match o with
      | .nx ρ' => loopM bs body xs ρ'
      | .ct ρ' => loopM bs body xs ρ'
      | .bk ρ' => M.ret (.nx ρ')
      | .rt d => M.ret (.rt d)
      | .rn ys => M.ret (.rn ys)
theorem Fin.up {K : PySem.W.Frag} {E : En} {σ1 : L2.St} {ρ1 : Env2} {G1 H1 : Hp} {b1 : Bs} {D : Ends} {b' : Bs} {o : Out} (I : SI K E σ1 ρ1 G1 H1 b1) (q : Fin K E D b' o) : Fin K ⟨G1, E.H, E.b⟩ D b' o := by
  cases o with
  | nx ρ => exact fun σ' G' H' J => q σ' G' H' (I.down J)
  | bk ρ => exact fun σ' G' H' J => q σ' G' H' (I.down J)
  | ct ρ => exact fun σ' G' H' J => q σ' G' H' (I.down J)
  | rt d => exact fun v G' H' n r => q v G' H' (I.downN n) r
  | rn xs => exact fun p vs G' H' n => q p vs G' H' (I.downN n)
theorem loop_f {K : PySem.W.Frag} {J : It} {g : TG} {bs : D → Option (List (Nat × D))} {is : List Nat} {body : Env2 → M Out} (tg : TgOk K g bs is) {E : En} {xs : List D} {G1 : Hp} (hG : Same G1 E.G) (yl : Yl K G1 J xs) {D : Ends} {σ : L2.St} {ρ : Env2} {G H : Hp} {b b' : Bs} {o : Out}
    (I : SI K E σ ρ G H b) (e : loopM bs body xs ρ b = some (o, b')) (q : Fin K E D b' o) :
    ∃ W : Nat → Nat → L2.St → Hp → Prop, (∃ m, W 0 m σ H) ∧ ∀ i m σ H, W i m σ H →
      (J.stop i H ∧ D.nx σ H) ∨ (J.go i H ∧ ∃ N : L2.St → Hp → Prop, (∀ σ' H', N σ' H' → ∃ m', m' < m ∧ W (i + 1) m' σ' H') ∧ ∀ x H', J.yld i H x H' → g x σ H' fun σ2 H2 => tS K body { D with nx := N, ct := N, bk := D.nx } σ2 H2) := by
  refine ⟨fun i m σ H => m = xs.length - i ∧ i ≤ xs.length ∧ ∃ ρ G b, SI K E σ ρ G H b ∧ loopM bs body (xs.drop i) ρ b = some (o, b'), ⟨xs.length, by simp, Nat.zero_le _, ρ, G, b, I, by simpa using e⟩, ?_⟩
  rintro i m σ2 H2 ⟨rfl, hi, ρ2, G2, b2, I2, e2⟩
  have Y := yl i G2 H2 b2 (fun a o h => I2.g0 a o (hG a o h)) I2.fz I2.bag
  by_cases hlt : i < xs.length
  · have hx : xs[i]? = some xs[i] := List.getElem?_eq_getElem hlt
    have hdr : xs.drop i = xs[i] :: xs.drop (i + 1) := List.drop_eq_getElem_cons hlt
    obtain ⟨hgo, hy⟩ := Y.1 _ hx
    refine .inr ⟨hgo, fun σ3 H3 => ∃ ρ G b, SI K E σ3 ρ G H3 b ∧ loopM bs body (xs.drop (i + 1)) ρ b = some (o, b'), fun σ' H' h' => ⟨xs.length - (i + 1), by omega, rfl, hlt, h'⟩, fun x H3 hyl => ?_⟩
    obtain ⟨G3, n3, rx⟩ := hy x H3 hyl
    rw [hdr] at e2
    unfold loopM at e2
    cases eb : bs xs[i] with
    | none => rw [eb] at e2; cases e2
    | some l =>
      rw [eb] at e2
      obtain ⟨lv, pl, il, gq⟩ := tg G3 x xs[i] l rx eb
      refine gq H3 _ _ n3.fz ?_
      obtain ⟨o1, b3, e3, e4⟩ := M.bind_some e2
      refine ⟨E, _, G3, b2, o1, b3, SI.setAll pl (I2.step n3), e3, ?_⟩
      cases o1 with
      | nx ρ' => exact fun σ' G' H' I' => ⟨ρ', G', b3, I', e4⟩
      | ct ρ' => exact fun σ' G' H' I' => ⟨ρ', G', b3, I', e4⟩
      | bk ρ' => cases e4; exact q
      | rt d => cases e4; exact q
      | rn ys => cases e4; exact q
  · have ee : i = xs.length := by omega
    subst ee
    refine .inl ⟨Y.2 (Nat.le_refl _), ?_⟩
    have hr : xs.drop xs.length = [] := by simp
    rw [hr] at e2
    cases e2
    exact q σ2 G2 H2 I2
def forM (ms : List Nat) (gi : Env → M (List D)) (bs : D → Option (List (Nat × D))) (body : Env2 → M Out) (ρ : Env2) : M Out := M.bind (gi (view ms ρ)) fun xs => loopM bs body xs (frz ms ρ)
def forRM (ms : List Nat) (gi : Env → M (List D)) (bs : D → Option (List (Nat × D))) (body : Env2 → M Out) (ρ : Env2) : M Out := M.bind (gi (view ms ρ)) fun xs => loopM bs body xs ρ
theorem s_for (ms : List Nat) {tg iter : Expr} {body : List Stmt} {gi : Env → M (List D)} {g : TG} {bs : D → Option (List (Nat × D))} {is : List Nat} {Fb : Env2 → M Out} (hp : PassesOwn (model X.prog X.w) X.A X.env X.xe) (hc : X.calm = true) (hi : DI X tg iter gi) (hg : PG X tg g) (ht : TgOk X.K g bs is) (hb : DSs X body Fb)
    (hs : ∀ x, foldedSetIterable iter X.env x = pure x := by intro _; rfl) : DS X (.For tg iter body [] pos) (forM ms gi bs Fb) := by
  refine PSimp (ps_for hp hc hi hg hb hs) ?_
  rintro D σ H ⟨E, ρ, G, b, o, b', I, e, q⟩
  obtain ⟨xs, b1, e1, e2⟩ := M.bind_some e
  refine ⟨_, _, b, xs, b1, I.rs ms, I.gp2 ms, I.gpb ms, e1, fun J G1 H1 n1 yl => ?_⟩
  have I1 := I.frz n1
  exact loop_f (E := ⟨G1, E.H, E.b⟩) ht (fun _ _ h => h) yl I1.up e2 (q.up I1)
theorem s_forR (ms : List Nat) {tg iter : Expr} {body : List Stmt} {gi : Env → M (List D)} {g : TG} {bs : D → Option (List (Nat × D))} {is : List Nat} {Fb : Env2 → M Out} (hp : PassesOwn (model X.prog X.w) X.A X.env X.xe) (hc : X.calm = true) (hi : DR X tg iter gi) (hg : PG X tg g) (ht : TgOk X.K g bs is) (hb : DSs X body Fb)
    (hs : ∀ x, foldedSetIterable iter X.env x = pure x := by intro _; rfl) : DS X (.For tg iter body [] pos) (forRM ms gi bs Fb) := by
  refine PSimp (ps_for hp hc hi hg hb hs) ?_
  rintro D σ H ⟨E, ρ, G, b, o, b', I, e, q⟩
  obtain ⟨xs, b1, e1, e2⟩ := M.bind_some e
  refine ⟨_, _, b, xs, b1, I.rs ms, I.gp2 ms, I.gpb ms, e1, fun J G1 H1 n1 yl => ?_⟩
  exact loop_f ht (fun _ _ h => by cases h) yl (I.flat n1) e2 q
def whileM (ms : List Nat) (t : Env → M Bool) (body : Env2 → M Out) : Nat → Env2 → M Out
  | 0, _ => M.fail
  | n + 1, ρ => M.bind (t (view ms ρ)) fun k => if k = true then M.bind (body ρ) fun o => match o with
      | .nx ρ' => whileM ms t body n ρ'
      | .ct ρ' => whileM ms t body n ρ'
      | .bk ρ' => M.ret (.nx ρ')
      | .rt d => M.ret (.rt d)
      | .rn ys => M.ret (.rn ys)
    else M.ret (.nx ρ)
theorem s_while (fuel : Nat) (ms : List Nat) {c : Expr} {body : List Stmt} {t : Env → M Bool} {Fb : Env2 → M Out} (hp : PassesOwn (model X.prog X.w) X.A X.env X.xe) (hc : DT X c t) (hb : DSs X body Fb) : DS X (.While c body [] pos) (whileM ms t Fb fuel) := by
  refine PSimp (ps_while hp hc hb) ?_
  rintro D σ H ⟨E, ρ, G, b, o, b', I, e, q⟩
  refine ⟨fun m σ H => ∃ ρ G b, SI X.K E σ ρ G H b ∧ whileM ms t Fb m ρ b = some (o, b'), ⟨fuel, ρ, G, b, I, e⟩, ?_⟩
  rintro m σ2 H2 ⟨ρ2, G2, b2, I2, e2⟩
  cases m with
  | zero => cases e2
  | succ m =>
    unfold whileM at e2
    obtain ⟨k, b1, e1, e3⟩ := M.bind_some e2
    refine ⟨_, _, b2, k, b1, I2.rs ms, I2.gp2 ms, I2.gpb ms, e1, fun G1 H1 n1 => ?_⟩
    have I1 := I2.flat n1
    cases k with
    | false => cases e3; exact iteF (q σ2 _ _ I1)
    | true =>
      refine iteT ?_
      obtain ⟨o1, b3, e4, e5⟩ := M.bind_some e3
      refine ⟨fun σ3 H3 => ∃ ρ G b, SI X.K E σ3 ρ G H3 b ∧ whileM ms t Fb m ρ b = some (o, b'), fun σ' H' h' => ⟨m, Nat.lt_succ_self _, h'⟩, E, ρ2, G2, b1, o1, b3, I1, e4, ?_⟩
      cases o1 with
      | nx ρ' => exact fun σ' G' H' I' => ⟨ρ', G', b3, I', e5⟩
      | ct ρ' => exact fun σ' G' H' I' => ⟨ρ', G', b3, I', e5⟩
      | bk ρ' => cases e5; exact q
      | rt d => cases e5; exact q
      | rn ys => cases e5; exact q
end
end DL
set_option Elab.async false
set_option maxRecDepth 100000
set_option autoImplicit false
set_option linter.unusedVariables false
set_option maxHeartbeats 4000000
namespace DL
open PySem L2
/-! ### the table of operations -/
theorem q_newL {K : PySem.W.Frag} {G H : Hp} {b : Bs} {Q : VK} {vs : List V} {ds : List D} {p : Addr} (fz : Same G H) (ob : BagOk G H b) (hp : H p = none) (r : RpL K G vs ds) (q : ∀ v G' H', Nxt G H b G' H' b → Rp K G' v (.lst ds) → Q v H') : Q (.ref p) (upd H p (.lst vs)) := by
  have m := Nxt.newF (o := .lst vs) fz ob hp
  exact q _ _ _ m (.lst upd_same (r.mono m.gg))
theorem q_newT {K : PySem.W.Frag} {G H : Hp} {b : Bs} {Q : VK} {vs : List V} {ds : List D} {p : Addr} (fz : Same G H) (ob : BagOk G H b) (hp : H p = none) (r : RpL K G vs ds) (q : ∀ v G' H', Nxt G H b G' H' b → Rp K G' v (.tup ds) → Q v H') : Q (.ref p) (upd H p (.tup vs)) := by
  have m := Nxt.newF (o := .tup vs) fz ob hp
  exact q _ _ _ m (.tup (SqT.of upd_same) (r.mono m.gg))
theorem szStr (x : List Nat) : (⟨x.toArray⟩ : Str).length = x.length := by simp [Str.length]
def szS (n : Nat) : Bool := decide (n ≤ sizeLine)
section
variable {X : Cx} {a b : Expr} {f g : Env → M D} {pos : Pos}
/-! subscripts -/
def bagIx (p : Addr) (i : Int) : M D := fun b => match b with
  | some g => if g.p = p then (atI [D.int g.z0, D.int g.z1, D.int g.z2, D.lst (g.cs.map D.int)] i).map fun d => (d, b) else none
  | none => none
def ixD : D → D → M D
  | .lst xs, .int i => M.of (atI xs i)
  | .tup xs, .int i => M.of (atI xs i)
  | .str x, .int i => M.guard (szS x.length) (M.of ((atI x i).map fun c => .str [c]))
  | .bag p, .int i => bagIx p i
  | _, _ => M.fail
theorem RpL.ints {K : PySem.W.Frag} {G : Hp} : ∀ ns : List Int, RpL K G (ns.map V.int) (ns.map D.int)
  | [] => .nil
  | n :: ns => .cons (.int n) (RpL.ints ns)
theorem RpL.atI {K : PySem.W.Frag} {G : Hp} {vs : List V} {ds : List D} {i : Int} {d : D} (r : RpL K G vs ds) (h : atI ds i = some d) : ∃ v, L2.atI vs i = some v ∧ Rp K G v d := by
  unfold L2.atI at h ⊢
  rw [r.length]
  cases e : ixN ds.length i with
  | none => rw [e] at h; cases h
  | some j =>
    rw [e] at h
    exact r.get h
theorem M.of_some' {α : Type} {o : Option α} {b b' : Bs} {a : α} (h : M.of o b = some (a, b')) : o = some a ∧ b = b' := by
  cases o with
  | none => cases h
  | some x => cases h; exact ⟨rfl, rfl⟩
theorem snd_ix : SndR X.K (rIx X.K) ixD := by
  intro G H b x y dx dy d b' Q rx ry fz ob e q
  cases ry with
  | int i =>
    cases rx with
    | lst h r =>
      obtain ⟨e1, rfl⟩ := M.of_some' e
      obtain ⟨v, h1, h2⟩ := r.atI e1
      exact .inl ⟨_, _, i, v, rfl, rfl, SqL.of (fz _ _ h), h1, q v G H (Nxt.refl fz ob) h2⟩
    | tup h r =>
      obtain ⟨e1, rfl⟩ := M.of_some' e
      obtain ⟨v, h1, h2⟩ := r.atI e1
      exact .inr (.inl ⟨_, _, i, v, rfl, rfl, Same.sqt fz h, h1, q v G H (Nxt.refl fz ob) h2⟩)
    | str x =>
      obtain ⟨c, e⟩ := M.guard_some e
      obtain ⟨e1, rfl⟩ := M.of_some' e
      cases e2 : atI x i with
      | none => rw [e2] at e1; cases e1
      | some c0 =>
        rw [e2] at e1
        cases e1
        refine .inr (.inr ⟨_, i, c0, rfl, rfl, ?_, ?_, q _ G H (Nxt.refl fz ob) (.str [c0])⟩)
        · rw [szStr]; exact of_decide_eq_true c
        · simpa using e2
    | bag p =>
      cases b with
      | none => cases e
      | some g =>
        have e' : (if g.p = p then (atI [D.int g.z0, D.int g.z1, D.int g.z2, D.lst (g.cs.map D.int)] i).map fun d => (d, (some g : Bs)) else none) = some (d, b') := e
        by_cases hp : g.p = p
        · rw [if_pos hp] at e'
          cases e2 : atI [D.int g.z0, D.int g.z1, D.int g.z2, D.lst (g.cs.map D.int)] i with
          | none => rw [e2] at e'; cases e'
          | some d0 =>
            rw [e2] at e'
            cases e'
            obtain ⟨o1, o2, o3⟩ := id ob
            have r : RpL X.K G [.int g.z0, .int g.z1, .int g.z2, .ref g.q] [D.int g.z0, D.int g.z1, D.int g.z2, D.lst (g.cs.map D.int)] := .cons (.int _) (.cons (.int _) (.cons (.int _) (.cons (.lst o3 (RpL.ints _)) .nil)))
            obtain ⟨v, h1, h2⟩ := r.atI e2
            exact .inl ⟨p, _, i, v, rfl, rfl, SqL.of (by rw [← hp]; exact o2), h1, q v G H (Nxt.refl fz ob) h2⟩
        · rw [if_neg hp] at e'; cases e'
    | _ => cases e
  | _ => cases rx <;> cases e
theorem d_ix (ha : DE X a f) (hb : DE X b g) (hp : PlainIx b := by exact fun _ _ => rfl) : DE X (.Subscript a b pos) (fun ρ => M.bind (f ρ) fun x => M.bind (g ρ) fun y => ixD x y) := d_ix0 ix_seq snd_ix ha hb hp
/-! + - * // % -/
def addD : D → D → M D
  | .int i, .int j => M.ret (.int (i + j))
  | .str x, .str y => M.guard (szS (x.length + y.length)) (M.ret (.str (x ++ y)))
  | .lst x, .lst y => M.guard (szS (x.length + y.length)) (M.ret (.lst (x ++ y)))
  | .tup x, .tup y => M.guard (szS (x.length + y.length) && !x.isEmpty && !y.isEmpty) (M.ret (.tup (x ++ y)))
  | _, _ => M.fail
theorem snd_add : SndR X.K (fun x y H Q => (rI0 (fun i j => .int (i + j)) x y H Q ∨ (∃ i j, x = .str i ∧ y = .str j ∧ i.length + j.length ≤ sizeLine ∧ Q (.str (i ++ j)) H)) ∨ (rCat x y H Q ∨ rCatT X.K x y H Q)) addD := by
  intro G H b x y dx dy d b' Q rx ry fz ob e q
  cases rx with
  | int i =>
    cases ry with
    | int j => cases e; exact .inl (.inl ⟨i, j, rfl, rfl, q _ G H (Nxt.refl fz ob) (.int _)⟩)
    | _ => cases e
  | str x =>
    cases ry with
    | str y =>
      obtain ⟨c, e⟩ := M.guard_some e
      cases e
      refine .inl (.inr ⟨_, _, rfl, rfl, by rw [szStr, szStr]; exact of_decide_eq_true c, ?_⟩)
      have h := q (.str ⟨(x ++ y).toArray⟩) G H (Nxt.refl fz ob) (.str (x ++ y))
      have e2 : ((⟨x.toArray⟩ : Str) ++ (⟨y.toArray⟩ : Str)) = ⟨(x ++ y).toArray⟩ := by
        show (⟨x.toArray ++ y.toArray⟩ : Str) = _
        simp
      rw [e2]; exact h
    | _ => cases e
  | lst hx r1 =>
    cases ry with
    | lst hy r2 =>
      obtain ⟨c, e⟩ := M.guard_some e
      cases e
      refine .inr (.inl ⟨_, _, _, _, rfl, rfl, fz _ _ hx, fz _ _ hy, by rw [r1.length, r2.length]; exact of_decide_eq_true c, fun p hp => q_newL fz ob hp (r1.append r2) q⟩)
    | _ => cases e
  | tup hx r1 =>
    cases ry with
    | tup hy r2 =>
      obtain ⟨c, e⟩ := M.guard_some e
      cases e
      simp only [Bool.and_eq_true, Bool.not_eq_true'] at c
      have n1 : ∀ {vs : List V} {ds : List D}, RpL X.K G vs ds → ds.isEmpty = false → vs ≠ [] := fun r h z => by
        have := r.empty
        rw [z, h] at this; cases this
      refine .inr (.inr ⟨_, _, _, _, rfl, rfl, Same.sqt fz hx, Same.sqt fz hy, n1 r1 c.1.2, by rw [r1.length, r2.length]; exact of_decide_eq_true c.1.1, fun z => absurd z (n1 r2 c.2), fun _ p hp => q_newT fz ob hp (r1.append r2) q⟩)
    | _ => cases e
  | _ => cases ry <;> cases e
theorem d_add (ha : DE X a f) (hb : DE X b g) : DE X (.BinOp a .Add b pos) (fun ρ => M.bind (f ρ) fun x => M.bind (g ρ) fun y => addD x y) :=
  d_op ((op_add.or op_add_str).or (op_cat.or op_catT)) snd_add ha hb
def i2 (h : Int → Int → Option Int) : D → D → M D
  | .int i, .int j => M.of ((h i j).map D.int)
  | _, _ => M.fail
theorem snd_i2 {K : PySem.W.Frag} {C : Int → Int → Prop} {k : Int → Int → Int} {h : Int → Int → Option Int} (hh : ∀ i j z, h i j = some z → C i j ∧ k i j = z) : SndR K (rI C fun i j => .int (k i j)) (i2 h) := by
  intro G H b x y dx dy d b' Q rx ry fz ob e q
  cases rx with
  | int i =>
    cases ry with
    | int j =>
      obtain ⟨e1, rfl⟩ := M.of_some' e
      cases e2 : h i j with
      | none => rw [e2] at e1; cases e1
      | some z =>
        rw [e2] at e1
        cases e1
        obtain ⟨c, rfl⟩ := hh i j z e2
        exact ⟨i, j, rfl, rfl, c, q _ G H (Nxt.refl fz ob) (.int _)⟩
    | _ => cases e
  | _ => cases ry <;> cases e
theorem snd_i0 {K : PySem.W.Frag} {k : Int → Int → Int} {h : Int → Int → Option Int} (hh : ∀ i j z, h i j = some z → k i j = z) : SndR K (rI0 fun i j => .int (k i j)) (i2 h) := by
  intro G H b x y dx dy d b' Q rx ry fz ob e q
  cases rx with
  | int i =>
    cases ry with
    | int j =>
      obtain ⟨e1, rfl⟩ := M.of_some' e
      cases e2 : h i j with
      | none => rw [e2] at e1; cases e1
      | some z =>
        rw [e2] at e1
        cases e1
        cases hh i j z e2
        exact ⟨i, j, rfl, rfl, q _ G H (Nxt.refl fz ob) (.int _)⟩
    | _ => cases e
  | _ => cases ry <;> cases e
def subD : D → D → M D := i2 fun i j => some (i - j)
theorem d_sub (ha : DE X a f) (hb : DE X b g) : DE X (.BinOp a .Sub b pos) (fun ρ => M.bind (f ρ) fun x => M.bind (g ρ) fun y => subD x y) :=
  d_op op_sub (snd_i0 fun i j z e => Option.some.inj e) ha hb
def modD : D → D → M D := i2 fun i j => if 0 < j then some (i % j) else none
theorem d_mod (ha : DE X a f) (hb : DE X b g) : DE X (.BinOp a .Mod b pos) (fun ρ => M.bind (f ρ) fun x => M.bind (g ρ) fun y => modD x y) :=
  d_op op_mod (snd_i2 fun i j z e => by
    by_cases h : 0 < j
    · rw [if_pos h] at e; exact ⟨h, Option.some.inj e⟩
    · rw [if_neg h] at e; cases e) ha hb
def divD : D → D → M D := i2 fun i j => if 0 < j ∧ j < 1073741824 then some (i / j) else none
theorem d_div (ha : DE X a f) (hb : DE X b g) : DE X (.BinOp a .FloorDiv b pos) (fun ρ => M.bind (f ρ) fun x => M.bind (g ρ) fun y => divD x y) :=
  d_op op_fdiv (snd_i2 fun i j z e => by
    by_cases h : 0 < j ∧ j < 1073741824
    · rw [if_pos h] at e; exact ⟨h, Option.some.inj e⟩
    · rw [if_neg h] at e; cases e) ha hb
def okM (i j : Int) : Bool := (decide (-(2 ^ 64) < i) && decide (i < 2 ^ 64)) || (decide (-(2 ^ 64) < j) && decide (j < 2 ^ 64))
theorem okM_c {i j : Int} (h : okM i j = true) : CMul i j := by
  unfold okM at h
  simp only [Bool.or_eq_true, Bool.and_eq_true, decide_eq_true_eq] at h
  exact h
def repL {α : Type} (x : List α) (n : Nat) : List α := (List.replicate n x).flatten
def okRep (x : Nat) (k : Int) : Bool := decide (-(2 ^ 63) ≤ k) && decide (k < 2 ^ 63) && decide (x * k.toNat ≤ sizeLine)
def mulD : D → D → M D
  | .int i, .int j => M.guard (okM i j) (M.ret (.int (i * j)))
  | .str x, .int k => M.guard (okRep x.length k) (M.ret (.str (repL x k.toNat)))
  | .lst x, .int k => M.guard (okRep x.length k) (M.ret (.lst (repL x k.toNat)))
  | _, _ => M.fail
theorem fold_app (x : List Nat) : ∀ (n : Nat) (acc : List Nat), (List.replicate n x.toArray).foldl (· ++ ·) acc.toArray = (acc ++ repL x n).toArray
  | 0, acc => by simp [repL]
  | n + 1, acc => by
    rw [List.replicate_succ, List.foldl_cons]
    have : acc.toArray ++ x.toArray = (acc ++ x).toArray := by simp
    rw [this, fold_app x n (acc ++ x)]
    simp [repL, List.replicate_succ]
theorem repL_one {α : Type} (x : List α) : repL x 1 = x := by simp [repL]
theorem txt_mul (x : List Nat) (k : Int) : Txt.mul ⟨x.toArray⟩ k = ⟨(repL x k.toNat).toArray⟩ := by
  unfold Txt.mul
  by_cases h1 : k < 1
  · rw [if_pos h1]
    have : k.toNat = 0 := by omega
    rw [this]; simp [repL, Str.empty]
  · rw [if_neg h1]
    by_cases h2 : (k == 1 || (⟨x.toArray⟩ : Str).length == 0) = true
    · rw [if_pos h2]
      rw [Bool.or_eq_true] at h2
      rcases h2 with h | h
      · have : k = 1 := by simpa using h
        subst this
        show _ = (⟨(repL x 1).toArray⟩ : Str)
        rw [repL_one]
      · have : x = [] := by
          have h' : (⟨x.toArray⟩ : Str).length = 0 := by simpa using h
          rw [szStr] at h'
          exact List.eq_nil_of_length_eq_zero h'
        subst this
        simp [repL]
    · rw [if_neg h2]
      have := fold_app x k.toNat []
      simp only [List.nil_append] at this
      show (⟨List.foldl (· ++ ·) #[] (List.replicate k.toNat x.toArray)⟩ : Str) = _
      rw [← this]
theorem op_mul_str : OpR X (binaryOp .Mult) (fun x y H Q => ∃ (z : List Nat) (k : Int), x = .str ⟨z.toArray⟩ ∧ y = .int k ∧ okRep z.length k = true ∧ Q (.str ⟨(repL z k.toNat).toArray⟩) H) := by
  intro pins s σ H x y v u Q I rx ry h
  obtain ⟨z, k, rfl, rfl, c, q⟩ := h
  obtain ⟨t, rfl⟩ := rx
  obtain ⟨t', rfl⟩ := ry
  unfold okRep at c
  simp only [Bool.and_eq_true, decide_eq_true_eq] at c
  obtain ⟨⟨c1, c2⟩, c3⟩ := c
  have hs : (sizeLine : Nat) = 16777216 := by decide
  refine PySem.SB.mul ⟨?_, fun h1 h2 => ?_, fun h1 h2 => ?_⟩ fun t' k' => ⟨.str ⟨(repL z k.toNat).toArray⟩, H, I.tok _, ⟨t', by rw [txt_mul]⟩, q⟩
  · rw [decide_eq_false (by omega), decide_eq_false (by omega)]; rfl
  · rw [szStr]
    intro h3
    have hk : 1 ≤ k := by omega
    have e1 : (z.length : Int) * k ≤ sizeLine := by
      have e0 : k = (k.toNat : Int) := by omega
      rw [e0, ← Int.natCast_mul]
      exact Int.ofNat_le.mpr c3
    have h4 : (2 ^ 63 - 1) < ((z.length : Int)) * k := by
      have := Int.lt_mul_of_ediv_lt (by omega : 0 < k) h3
      exact this
    rw [hs] at e1
    have : ((16777216 : Nat) : Int) < 2 ^ 63 - 1 := by decide
    omega
  · rw [szStr]
    unfold Builtin.Str.tooLong
    rw [hs] at c3
    simp
    omega
theorem RpL.flat {K : PySem.W.Frag} {G : Hp} {vs : List V} {ds : List D} (r : RpL K G vs ds) : ∀ n : Nat, RpL K G (repL vs n) (repL ds n)
  | 0 => .nil
  | n + 1 => by
    unfold repL
    rw [List.replicate_succ, List.replicate_succ, List.flatten_cons, List.flatten_cons]
    exact r.append (RpL.flat r n)
theorem snd_mul : SndR X.K (fun x y H Q => (rI CMul (fun i j => .int (i * j)) x y H Q ∨ (∃ (z : List Nat) (k : Int), x = .str ⟨z.toArray⟩ ∧ y = .int k ∧ okRep z.length k = true ∧ Q (.str ⟨(repL z k.toNat).toArray⟩) H)) ∨ rRep x y H Q) mulD := by
  intro G H b x y dx dy d b' Q rx ry fz ob e q
  cases ry with
  | int j =>
    cases rx with
    | int i =>
      obtain ⟨c, e⟩ := M.guard_some e
      cases e
      exact .inl (.inl ⟨i, j, rfl, rfl, okM_c c, q _ G H (Nxt.refl fz ob) (.int _)⟩)
    | str x =>
      obtain ⟨c, e⟩ := M.guard_some e
      cases e
      exact .inl (.inr ⟨x, j, rfl, rfl, c, q _ G H (Nxt.refl fz ob) (.str _)⟩)
    | lst hx r =>
      obtain ⟨c, e⟩ := M.guard_some e
      cases e
      unfold okRep at c
      simp only [Bool.and_eq_true, decide_eq_true_eq] at c
      refine .inr ⟨_, j, _, rfl, rfl, fz _ _ hx, c.1.1, c.1.2, by rw [r.length]; exact c.2, fun p hp => q_newL fz ob hp (r.flat _) q⟩
    | _ => cases e
  | _ => cases rx <;> cases e
theorem d_mul (ha : DE X a f) (hb : DE X b g) : DE X (.BinOp a .Mult b pos) (fun ρ => M.bind (f ρ) fun x => M.bind (g ρ) fun y => mulD x y) :=
  d_op ((op_mul.or op_mul_str).or op_rep) snd_mul ha hb
def negD : D → M D
  | .int i => M.ret (.int (-i))
  | _ => M.fail
theorem d_neg (ha : DE X a f) : DE X (.UnaryOp .USub a pos) (fun ρ => M.bind (f ρ) negD) := by
  refine PEimp (pe_un un_neg ha) ?_
  rintro σ H Q ⟨ρ, G, b, d, b', rs, fz, ob, e, q⟩
  obtain ⟨x, b1, e1, e2⟩ := M.bind_some e
  refine ⟨ρ, G, b, x, b1, rs, fz, ob, e1, fun v G1 H1 n1 r => ?_⟩
  cases r with
  | int i => cases e2; exact ⟨i, rfl, q _ _ _ n1 (.int _)⟩
  | _ => cases e2
/-! comparisons -/
def cmpD (h : Int → Int → Bool) : D → D → M D
  | .int i, .int j => M.ret (.bl (h i j))
  | _, _ => M.fail
theorem snd_cmp {K : PySem.W.Frag} {h : Int → Int → Bool} : SndR K (rI0 fun i j => .bl (h i j)) (cmpD h) := by
  intro G H b x y dx dy d b' Q rx ry fz ob e q
  cases rx with
  | int i =>
    cases ry with
    | int j => cases e; exact ⟨i, j, rfl, rfl, q _ G H (Nxt.refl fz ob) (.bl _)⟩
    | _ => cases e
  | _ => cases ry <;> cases e
abbrev ltD : D → D → M D := cmpD fun i j => decide (i < j)
abbrev leD : D → D → M D := cmpD fun i j => decide (i ≤ j)
abbrev gtD : D → D → M D := cmpD fun i j => decide (j < i)
abbrev geD : D → D → M D := cmpD fun i j => decide (j ≤ i)
theorem t_lt (ha : DE X a f) (hb : DE X b g) : DT X (.Compare a [.Lt] [b] pos) (fun ρ => M.bind (f ρ) fun x => M.bind (g ρ) fun y => M.bind (ltD x y) asB) := t_cmp op_lt snd_cmp ha hb (nomark _)
theorem t_le (ha : DE X a f) (hb : DE X b g) : DT X (.Compare a [.LtE] [b] pos) (fun ρ => M.bind (f ρ) fun x => M.bind (g ρ) fun y => M.bind (leD x y) asB) := t_cmp op_le snd_cmp ha hb (nomark _)
theorem t_gt (ha : DE X a f) (hb : DE X b g) : DT X (.Compare a [.Gt] [b] pos) (fun ρ => M.bind (f ρ) fun x => M.bind (g ρ) fun y => M.bind (gtD x y) asB) := t_cmp op_gt snd_cmp ha hb (nomark _)
theorem t_ge (ha : DE X a f) (hb : DE X b g) : DT X (.Compare a [.GtE] [b] pos) (fun ρ => M.bind (f ρ) fun x => M.bind (g ρ) fun y => M.bind (geD x y) asB) := t_cmp op_ge snd_cmp ha hb (nomark _)
theorem d_lt (ha : DE X a f) (hb : DE X b g) : DE X (.Compare a [.Lt] [b] pos) (fun ρ => M.bind (f ρ) fun x => M.bind (g ρ) fun y => ltD x y) := d_cmp op_lt snd_cmp ha hb (nomark _)
theorem d_le (ha : DE X a f) (hb : DE X b g) : DE X (.Compare a [.LtE] [b] pos) (fun ρ => M.bind (f ρ) fun x => M.bind (g ρ) fun y => leD x y) := d_cmp op_le snd_cmp ha hb (nomark _)
theorem d_gt (ha : DE X a f) (hb : DE X b g) : DE X (.Compare a [.Gt] [b] pos) (fun ρ => M.bind (f ρ) fun x => M.bind (g ρ) fun y => gtD x y) := d_cmp op_gt snd_cmp ha hb (nomark _)
theorem d_ge (ha : DE X a f) (hb : DE X b g) : DE X (.Compare a [.GtE] [b] pos) (fun ρ => M.bind (f ρ) fun x => M.bind (g ρ) fun y => geD x y) := d_cmp op_ge snd_cmp ha hb (nomark _)
end
end DL
set_option Elab.async false
set_option maxRecDepth 100000
set_option autoImplicit false
set_option linter.unusedVariables false
set_option maxHeartbeats 4000000
namespace DL
open PySem L2 PySem.Spec PyProof.Rows
/-! ### equality -/
mutual
def toPy : D → Option PyData
  | .non => some .none
  | .bl b => some (.bool b)
  | .int i => some (.int i)
  | .str x => some (.str ⟨x.toArray⟩)
  | .lst xs => match toPyL xs with
    | some l => some (.list l)
    | none => none
  | .tup xs => match toPyL xs with
    | some l => some (.tuple l)
    | none => none
  | .dct _ _ => none
  | .obj _ _ => none
  | .bag _ => none
  | .scr _ => none
def toPyL : List D → Option (List PyData)
  | [] => some []
  | d :: ds => match toPy d with
    | some a => match toPyL ds with
      | some l => some (a :: l)
      | none => none
    | none => none
end
mutual
theorem Rp.dp {K : PySem.W.Frag} {G : Hp} : ∀ {v : V} {d : D} {e : PyData}, Rp K G v d → toPy d = some e → Dp K G v e
  | _, _, _, .non, h => by unfold toPy at h; cases h; exact .non
  | _, _, _, .bl b, h => by unfold toPy at h; cases h; exact .bl b
  | _, _, _, .int i, h => by unfold toPy at h; cases h; exact .int i
  | _, _, _, .str x, h => by unfold toPy at h; cases h; exact .str _
  | _, _, _, .lst (ds := ds) h1 r, h => by
    unfold toPy at h
    cases e : toPyL ds with
    | none => rw [e] at h; cases h
    | some l => rw [e] at h; cases h; exact .lst (SqL.of h1) (RpL.dp r e)
  | _, _, _, .tup (ds := ds) h1 r, h => by
    unfold toPy at h
    cases e : toPyL ds with
    | none => rw [e] at h; cases h
    | some l => rw [e] at h; cases h; exact .tup h1 (RpL.dp r e)
  | _, _, _, .dct _ _ _, h => by unfold toPy at h; cases h
  | _, _, _, .obj _ _ _, h => by unfold toPy at h; cases h
  | _, _, _, .bag _, h => by unfold toPy at h; cases h
  | _, _, _, .scr _, h => by unfold toPy at h; cases h
theorem RpL.dp {K : PySem.W.Frag} {G : Hp} : ∀ {vs : List V} {ds : List D} {es : List PyData}, RpL K G vs ds → toPyL ds = some es → DpAll K G vs es
  | _, _, _, .nil, h => by unfold toPyL at h; cases h; exact .nil
  | _, _, _, .cons (d := d) (ds := ds) a b, h => by
    unfold toPyL at h
    cases e1 : toPy d with
    | none => rw [e1] at h; cases h
    | some x =>
      rw [e1] at h
      cases e2 : toPyL ds with
      | none => rw [e2] at h; cases h
      | some l => rw [e2] at h; cases h; exact .cons (Rp.dp a e1) (RpL.dp b e2)
end
def eqDeep (neg : Bool) (x y : D) : M D := match toPy x with
  | some a => match toPy y with
    | some b => M.guard (SeqAt.shaped a && SeqAt.shaped b) (M.ret (.bl (if neg then !PyData.eqv a b else PyData.eqv a b)))
    | none => M.fail
  | none => M.fail
def eqD (neg : Bool) : D → D → M D
  | .int i, .int j => M.ret (.bl (if neg then !decide (i = j) else decide (i = j)))
  | .str i, .str j => M.ret (.bl (if neg then !decide (i = j) else decide (i = j)))
  | .bl i, .bl j => M.ret (.bl (if neg then !decide (i = j) else decide (i = j)))
  | x, y => eqDeep neg x y
theorem dec_S (x y : List Nat) : decide (V.str ⟨x.toArray⟩ = V.str ⟨y.toArray⟩) = decide (x = y) := by
  by_cases h : x = y
  · subst h; simp
  · rw [decide_eq_false h, decide_eq_false]
    intro z
    apply h
    have := V.str.inj z
    have := congrArg Str.cps this
    simpa using this
theorem dec_I (x y : Int) : decide (V.int x = V.int y) = decide (x = y) := by
  by_cases h : x = y
  · subst h; simp
  · rw [decide_eq_false h, decide_eq_false fun z => h (V.int.inj z)]
theorem dec_B (x y : Bool) : decide (V.bl x = V.bl y) = decide (x = y) := by
  by_cases h : x = y
  · subst h; simp
  · rw [decide_eq_false h, decide_eq_false fun z => h (V.bl.inj z)]
theorem eqDeep_some {neg : Bool} {x y d : D} {b b' : Bs} (h : eqDeep neg x y b = some (d, b')) : ∃ e1 e2, toPy x = some e1 ∧ toPy y = some e2 ∧ SeqAt.shaped e1 = true ∧ SeqAt.shaped e2 = true ∧ d = .bl (if neg then !PyData.eqv e1 e2 else PyData.eqv e1 e2) ∧ b = b' := by
  unfold eqDeep at h
  cases e1 : toPy x with
  | none => rw [e1] at h; cases h
  | some a1 =>
    cases e2 : toPy y with
    | none => rw [e1, e2] at h; cases h
    | some a2 =>
      rw [e1, e2] at h
      obtain ⟨c, h⟩ := M.guard_some h
      cases h
      rw [Bool.and_eq_true] at c
      exact ⟨a1, a2, rfl, rfl, c.1, c.2, rfl, rfl⟩
theorem snd_eq {K : PySem.W.Frag} : SndR K (fun x y H Q => rEq x y H Q ∨ rEqD K x y H Q) (eqD false) := by
  intro G H b x y dx dy d b' Q rx ry fz ob e q
  have deep : eqDeep false dx dy b = some (d, b') → rEq x y H Q ∨ rEqD K x y H Q := fun h => by
    obtain ⟨e1, e2, h1, h2, h3, h4, rfl, rfl⟩ := eqDeep_some h
    exact .inr ⟨e1, e2, (rx.mono fz).dp h1, (ry.mono fz).dp h2, h3, h4, q _ G H (Nxt.refl fz ob) (.bl _)⟩
  cases rx with
  | int i =>
    cases ry with
    | int j =>
      cases e
      refine .inl ⟨rfl, ?_⟩
      rw [dec_I]; exact q _ G H (Nxt.refl fz ob) (.bl _)
    | _ => exact deep e
  | str i =>
    cases ry with
    | str j =>
      cases e
      refine .inl ⟨rfl, ?_⟩
      rw [dec_S]; exact q _ G H (Nxt.refl fz ob) (.bl _)
    | _ => exact deep e
  | bl i =>
    cases ry with
    | bl j =>
      cases e
      refine .inl ⟨rfl, ?_⟩
      rw [dec_B]; exact q _ G H (Nxt.refl fz ob) (.bl _)
    | _ => exact deep e
  | _ => exact deep e
theorem snd_ne {K : PySem.W.Frag} : SndR K (fun x y H Q => rNe x y H Q ∨ rNeD K x y H Q) (eqD true) := by
  intro G H b x y dx dy d b' Q rx ry fz ob e q
  have deep : eqDeep true dx dy b = some (d, b') → rNe x y H Q ∨ rNeD K x y H Q := fun h => by
    obtain ⟨e1, e2, h1, h2, h3, h4, rfl, rfl⟩ := eqDeep_some h
    exact .inr ⟨e1, e2, (rx.mono fz).dp h1, (ry.mono fz).dp h2, h3, h4, q _ G H (Nxt.refl fz ob) (.bl _)⟩
  cases rx with
  | int i =>
    cases ry with
    | int j =>
      cases e
      refine .inl ⟨rfl, ?_⟩
      rw [dec_I]; exact q _ G H (Nxt.refl fz ob) (.bl _)
    | _ => exact deep e
  | str i =>
    cases ry with
    | str j =>
      cases e
      refine .inl ⟨rfl, ?_⟩
      rw [dec_S]; exact q _ G H (Nxt.refl fz ob) (.bl _)
    | _ => exact deep e
  | bl i =>
    cases ry with
    | bl j =>
      cases e
      refine .inl ⟨rfl, ?_⟩
      rw [dec_B]; exact q _ G H (Nxt.refl fz ob) (.bl _)
    | _ => exact deep e
  | _ => exact deep e
section
variable {X : Cx} {a b : Expr} {f g : Env → M D} {pos : Pos}
theorem t_eq (hu : X.A.units + 64 < cLine) (ha : DE X a f) (hb : DE X b g) : DT X (.Compare a [.Eq] [b] pos) (fun ρ => M.bind (f ρ) fun x => M.bind (g ρ) fun y => M.bind (eqD false x y) asB) := t_cmp (op_eq.or (op_eqD hu)) snd_eq ha hb (nomark _)
theorem d_eq (hu : X.A.units + 64 < cLine) (ha : DE X a f) (hb : DE X b g) : DE X (.Compare a [.Eq] [b] pos) (fun ρ => M.bind (f ρ) fun x => M.bind (g ρ) fun y => eqD false x y) := d_cmp (op_eq.or (op_eqD hu)) snd_eq ha hb (nomark _)
theorem t_ne (hu : X.A.units + 64 < cLine) (ha : DE X a f) (hb : DE X b g) : DT X (.Compare a [.NotEq] [b] pos) (fun ρ => M.bind (f ρ) fun x => M.bind (g ρ) fun y => M.bind (eqD true x y) asB) := t_cmp (op_ne.or (op_neD hu)) snd_ne ha hb (nomark _)
theorem d_ne (hu : X.A.units + 64 < cLine) (ha : DE X a f) (hb : DE X b g) : DE X (.Compare a [.NotEq] [b] pos) (fun ρ => M.bind (f ρ) fun x => M.bind (g ρ) fun y => eqD true x y) := d_cmp (op_ne.or (op_neD hu)) snd_ne ha hb (nomark _)
/-! one sign in a text -/
def inD (neg : Bool) : D → D → M D
  | .str [c], .str z => M.ret (.bl (if neg then !decide (c ∈ z) else decide (c ∈ z)))
  | _, _ => M.fail
theorem inD_some {neg : Bool} {x y d : D} {b b' : Bs} (h : inD neg x y b = some (d, b')) : ∃ c z, x = .str [c] ∧ y = .str z ∧ d = .bl (if neg then !decide (c ∈ z) else decide (c ∈ z)) ∧ b = b' := by
  unfold inD at h
  split at h
  · cases h; exact ⟨_, _, rfl, rfl, rfl, rfl⟩
  · cases h
theorem snd_in : SndR X.K (fun x y H Q => ∃ (c : Nat) (z : Str), x = .str ⟨#[c]⟩ ∧ y = .str z ∧ Q (.bl (decide (c ∈ z.cps.toList))) H) (inD false) := by
  intro G H b x y dx dy d b' Q rx ry fz ob e q
  obtain ⟨c, z, rfl, rfl, rfl, rfl⟩ := inD_some e
  cases rx
  cases ry
  refine ⟨c, _, rfl, rfl, ?_⟩
  exact q _ G H (Nxt.refl fz ob) (.bl _)
theorem snd_notIn : SndR X.K (fun x y H Q => ∃ (c : Nat) (z : Str), x = .str ⟨#[c]⟩ ∧ y = .str z ∧ Q (.bl (!decide (c ∈ z.cps.toList))) H) (inD true) := by
  intro G H b x y dx dy d b' Q rx ry fz ob e q
  obtain ⟨c, z, rfl, rfl, rfl, rfl⟩ := inD_some e
  cases rx
  cases ry
  refine ⟨c, _, rfl, rfl, ?_⟩
  exact q _ G H (Nxt.refl fz ob) (.bl _)
theorem t_in (ha : DE X a f) (hb : DE X b g) (hm : behindInMarks .In b = false := by rfl) : DT X (.Compare a [.In] [b] pos) (fun ρ => M.bind (f ρ) fun x => M.bind (g ρ) fun y => M.bind (inD false x y) asB) := t_cmp op_in_sign snd_in ha hb hm
theorem d_in (ha : DE X a f) (hb : DE X b g) (hm : behindInMarks .In b = false := by rfl) : DE X (.Compare a [.In] [b] pos) (fun ρ => M.bind (f ρ) fun x => M.bind (g ρ) fun y => inD false x y) := d_cmp op_in_sign snd_in ha hb hm
theorem t_notIn (ha : DE X a f) (hb : DE X b g) (hm : behindInMarks .NotIn b = false := by rfl) : DT X (.Compare a [.NotIn] [b] pos) (fun ρ => M.bind (f ρ) fun x => M.bind (g ρ) fun y => M.bind (inD true x y) asB) := t_cmp op_notIn_sign snd_notIn ha hb hm
theorem d_notIn (ha : DE X a f) (hb : DE X b g) (hm : behindInMarks .NotIn b = false := by rfl) : DE X (.Compare a [.NotIn] [b] pos) (fun ρ => M.bind (f ρ) fun x => M.bind (g ρ) fun y => inD true x y) := d_cmp op_notIn_sign snd_notIn ha hb hm
/-! ### slices -/
def cutL {α : Type} (xs : List α) (lo hi : Option Int) : List α := (xs.drop (HT.sIx xs.length 0 lo)).take (HT.sIx xs.length xs.length hi - HT.sIx xs.length 0 lo)
def tFO (K : PySem.W.Frag) (f : Env → M (Option Int)) : TO := fun σ H Q => ∃ ρ G b d b', RS K G σ ρ ∧ Same G H ∧ BagOk G H b ∧ f ρ b = some (d, b') ∧ ∀ G' H', Nxt G H b G' H' b' → Q d H'
abbrev DO (X : Cx) (e : Option Expr) (f : Env → M (Option Int)) : Prop := PO X e (tFO X.K f)
theorem POimp {e : Option Expr} {t t' : TO} (h : PO X e t) (i : ∀ σ H Q, t' σ H Q → t σ H Q) : PO X e t' := ⟨fun pins s σ H Q I q => h.run pins s σ H Q I (i σ H Q q)⟩
theorem do_none : DO X none (fun _ => M.ret none) := by
  refine POimp po_none ?_
  rintro σ H Q ⟨ρ, G, b, d, b', rs, fz, ob, e, q⟩
  cases e
  exact q G H (Nxt.refl fz ob)
def asI : D → M (Option Int)
  | .int i => M.ret (some i)
  | _ => M.fail
theorem do_some (ha : DE X a f) : DO X (some a) (fun ρ => M.bind (f ρ) asI) := by
  refine POimp (po_some ha) ?_
  rintro σ H Q ⟨ρ, G, b, d, b', rs, fz, ob, e, q⟩
  obtain ⟨x, b1, e1, e2⟩ := M.bind_some e
  refine ⟨ρ, G, b, x, b1, rs, fz, ob, e1, fun v G1 H1 n1 r => ?_⟩
  cases r with
  | int i => cases e2; exact ⟨i, rfl, q _ _ n1⟩
  | _ => cases e2
def slD (lo hi : Option Int) : D → M D
  | .str x => M.guard (szS x.length) (M.ret (.str (cutL x lo hi)))
  | .lst xs => M.ret (.lst (cutL xs lo hi))
  | .scr ns => M.ret (.lst (cutL (ns.map D.int) lo hi))
  | .tup xs => M.guard (!(decide (HT.sIx xs.length 0 lo = 0) && decide (HT.sIx xs.length xs.length hi = xs.length))) (M.ret (.tup (cutL xs lo hi)))
  | _ => M.fail
theorem RpL.cut {K : PySem.W.Frag} {G : Hp} {vs : List V} {ds : List D} (r : RpL K G vs ds) (lo hi : Option Int) : RpL K G (cutV vs lo hi) (cutL ds lo hi) := by
  unfold cutV cutL
  rw [r.length]
  exact (r.drop _).take _
theorem cutS_L (x : List Nat) (lo hi : Option Int) : cutS ⟨x.toArray⟩ lo hi = ⟨(cutL x lo hi).toArray⟩ := by
  unfold cutS cutL
  rw [szStr]
theorem d_slice {p2 : Pos} {lo hi : Option Expr} {fl fh : Env → M (Option Int)} (ha : DE X a f) (hl : DO X lo fl) (hh : DO X hi fh) :
    DE X (.Subscript a (.Slice lo hi none p2) pos) (fun ρ => M.bind (f ρ) fun x => M.bind (fl ρ) fun l => M.bind (fh ρ) fun h => slD l h x) := by
  refine PEimp (pe_slice (sl_str.or (sl_list.or sl_tup)) ha hl hh) ?_
  rintro σ H Q ⟨ρ, G, b, d, b', rs, fz, ob, e, q⟩
  obtain ⟨x, b1, e1, e⟩ := M.bind_some e
  obtain ⟨l, b2, e2, e⟩ := M.bind_some e
  obtain ⟨h, b3, e3, e⟩ := M.bind_some e
  refine ⟨ρ, G, b, x, b1, rs, fz, ob, e1, fun v G1 H1 n1 r => ?_⟩
  refine ⟨ρ, G1, b1, l, b2, rs.mono n1.gg, n1.fz, n1.bag, e2, fun G2 H2 n2 => ?_⟩
  refine ⟨ρ, G2, b2, h, b3, (rs.mono n1.gg).mono n2.gg, n2.fz, n2.bag, e3, fun G3 H3 n3 => ?_⟩
  have r := (r.mono n2.gg).mono n3.gg
  have q : ∀ v G' H', Nxt G3 H3 b3 G' H' b' → Rp X.K G' v d → Q v H' := fun v G' H' n rr => q v G' H' (((n1.trans n2).trans n3).trans n) rr
  cases r with
  | str x =>
    obtain ⟨c, e⟩ := M.guard_some e
    cases e
    refine .inl ⟨_, rfl, by rw [szStr]; exact of_decide_eq_true c, ?_⟩
    rw [cutS_L]
    exact q _ G3 H3 (Nxt.refl n3.fz n3.bag) (.str _)
  | lst hx rl =>
    cases e
    exact .inr (.inl ⟨_, _, rfl, SqL.of (n3.fz _ _ hx), fun p hp => q_newL n3.fz n3.bag hp (rl.cut l h) q⟩)
  | scr hx =>
    cases e
    exact .inr (.inl ⟨_, _, rfl, Same.seq n3.fz hx, fun p hp => q_newL n3.fz n3.bag hp ((RpL.ints _).cut l h) q⟩)
  | tup hx rl =>
    obtain ⟨c, e⟩ := M.guard_some e
    cases e
    refine .inr (.inr ⟨_, _, rfl, Same.sqt n3.fz hx, ?_, fun p hp => q_newT n3.fz n3.bag hp (rl.cut l h) q⟩)
    rw [rl.length]
    rintro ⟨z1, z2⟩
    simp [z1, z2] at c
  | _ => cases e
theorem str_rev_pick (x : List Nat) (t : Tok) : (slicePicked ⟨x.toArray⟩ none none (some (-1, t))).filterMap ((⟨x.toArray⟩ : Str).cps[·]?) = x.reverse := by
  have e1 : slicePicked ⟨x.toArray⟩ none none (some (-1, t)) = sliceRange ((((⟨x.toArray⟩ : Str).length : Nat) : Int) - 1) (-1) (-1) := rfl
  rw [e1, PySem.W.krv_sliceRange, PySem.W.krv_range, List.filterMap_reverse]
  have e2 : (⟨x.toArray⟩ : Str).length = x.toArray.size := rfl
  rw [e2]
  show ((List.range x.toArray.size).filterMap (x.toArray[·]?)).reverse = _
  rw [PySem.W.krv_all]
def tRevS (te : TE) : TE := fun σ H Q => te σ H fun x H1 => ∃ z : List Nat, x = .str ⟨z.toArray⟩ ∧ z.length ≤ sizeLine ∧ Q (.str ⟨z.reverse.toArray⟩) H1
theorem pe_revS {e : Expr} {te : TE} {k : Nat} {p1 p2 p3 : Pos} (he : PE X e te) : PE X (.Subscript e (.Slice none none (some (.UnaryOp .USub (.Constant (.int 1) k p1) p2)) p3) pos) (tRevS te) := by
  refine ⟨fun pins s σ H Q I h => ?_⟩
  refine Subscript_ (thn (he.run pins s σ H _ I h) fun v s1 ⟨x, H1, I1, r1, q1⟩ => ?_)
  obtain ⟨z, rfl, hz, q⟩ := q1
  obtain ⟨t0, rfl⟩ := r1
  have hst : PO X (some (.UnaryOp .USub (.Constant (.int 1) k p1) p2)) (tPart (tUn (rU fun i => .int (-i)) (tC (.int 1)))) := po_some (pe_un un_neg pe_int)
  refine wpAny_Slice (thn (po_none.run pins s1 σ H1 (fun o H2 => o = none ∧ H2 = H1) I1 ⟨rfl, rfl⟩) fun vl s2 ⟨l, H2, I2, pl, el, e2⟩ => ?_)
  subst el e2
  cases pl
  refine thn (po_none.run pins s2 σ H2 (fun o H3 => o = none ∧ H3 = H2) I2 ⟨rfl, rfl⟩) fun vu s3 ⟨u, H3, I3, pu, eu, e3⟩ => ?_
  subst eu e3
  cases pu
  refine thn (hst.run pins s3 σ H3 (fun o H4 => o = some (-1) ∧ H4 = H3) I3 ⟨1, rfl, -1, rfl, rfl, rfl⟩) fun vs s4 ⟨o, H4, I4, ps, eo, e4⟩ => ?_
  subst eo e4
  cases ps with
  | int i t1 =>
    have I5 : Inv X pins σ H4 { s4 with heap := s4.heap.push { cls := .type "slice", data := .fields #[.none, .none, .int (-1) t1] } } := I4.kept (t' := s4.toks) fun b ob q => Heap.get?_push_of_some _ q
    refine tail_any (ops := [.str ⟨z.toArray⟩ t0, .ref s4.heap.objs.size]) (typeIs_str _ _ _) F.slot_str_getitem.lookup ?_ (by with_unfolding_all rfl)
    refine wpAny_getItem_str_slice (l := none) (u := none) (st := some (-1, t1)) ⟨_, Heap.get?_push_size _ rfl, rfl, rfl⟩ rfl ?_
    have em : sliceMade ⟨z.toArray⟩ t0 none none (some (-1, t1)) = .str ⟨z.reverse.toArray⟩ := by
      unfold sliceMade
      rw [if_neg (by simp), str_rev_pick]
    rw [em]
    refine ⟨?_, ⟨.str ⟨z.reverse.toArray⟩, H4, I5.tok _, ⟨_, rfl⟩, q⟩⟩
    show (⟨z.reverse.toArray⟩ : Str).length ≤ sizeLine
    rw [szStr, List.length_reverse]; exact hz
def revD : D → M D
  | .str x => M.guard (szS x.length) (M.ret (.str x.reverse))
  | .lst x => M.ret (.lst x.reverse)
  | _ => M.fail
theorem RpL.rev {K : PySem.W.Frag} {G : Hp} : ∀ {vs : List V} {ds : List D}, RpL K G vs ds → RpL K G vs.reverse ds.reverse
  | _, _, .nil => .nil
  | _, _, .cons a b => by
    rw [List.reverse_cons, List.reverse_cons]
    exact (RpL.rev b).append (.cons a .nil)
theorem d_rev {k : Nat} {p1 p2 p3 : Pos} (ha : DE X a f) : DE X (.Subscript a (.Slice none none (some (.UnaryOp .USub (.Constant (.int 1) k p1) p2)) p3) pos) (fun ρ => M.bind (f ρ) revD) := by
  have h1 := pe_revS (pos := pos) (k := k) (p1 := p1) (p2 := p2) (p3 := p3) ha
  have h2 := pe_revL (pos := pos) (k := k) (p1 := p1) (p2 := p2) (p3 := p3) ha
  refine ⟨fun pins s σ H Q I q0 => ?_⟩
  obtain ⟨ρ, G, b, d, b', rs, fz, ob, e, q⟩ := q0
  obtain ⟨x, b1, e1, e2⟩ := M.bind_some e
  cases x with
  | str x =>
    obtain ⟨c, e3⟩ := M.guard_some e2
    cases e3
    refine h1.run pins s σ H Q I ⟨ρ, G, b, _, b', rs, fz, ob, e1, fun v G1 H1 n1 r => ?_⟩
    cases r
    exact ⟨x, rfl, of_decide_eq_true c, q _ _ _ n1 (.str _)⟩
  | lst xs =>
    cases e2
    refine h2.run pins s σ H Q I ⟨ρ, G, b, _, b', rs, fz, ob, e1, fun v G1 H1 n1 r => ?_⟩
    cases r with
    | lst hx rl => exact ⟨_, _, rfl, SqL.of (n1.fz _ _ hx), fun p hp => q_newL n1.fz n1.bag hp rl.rev fun v G' H' n rr => q v G' H' (n1.trans n) rr⟩
  | _ => cases e2
/-! ### what is built in -/
theorem RpL.one {K : PySem.W.Frag} {G : Hp} {vs : List V} {d : D} (r : RpL K G vs [d]) : ∃ v, vs = [v] ∧ Rp K G v d := by
  cases r with
  | cons r1 r2 => cases r2; exact ⟨_, rfl, r1⟩
def lenF : List D → M D
  | [.str x] => M.guard (szS x.length) (M.ret (.int x.length))
  | [.lst x] => M.ret (.int x.length)
  | [.tup x] => M.ret (.int x.length)
  | _ => M.fail
theorem snd_len : SndC X.K (fun xs H Q => ∃ x n, xs = [x] ∧ LenV X.K x H n ∧ Q (.int n) H) lenF := by
  intro G H b vs ds d b' Q r fz ob e q
  unfold lenF at e
  split at e
  · obtain ⟨v, rfl, r1⟩ := r.one
    cases r1
    obtain ⟨c, e⟩ := M.guard_some e
    cases e
    refine ⟨_, _, rfl, ⟨?_, rfl⟩, ?_⟩
    · rw [szStr]; exact of_decide_eq_true c
    · rw [szStr]; exact q _ _ _ (Nxt.refl fz ob) (.int _)
  · obtain ⟨v, rfl, r1⟩ := r.one
    cases r1 with
    | lst h rl => cases e; exact ⟨_, _, rfl, .inl ⟨_, SqL.of (fz _ _ h), rfl⟩, by rw [rl.length]; exact q _ _ _ (Nxt.refl fz ob) (.int _)⟩
  · obtain ⟨v, rfl, r1⟩ := r.one
    cases r1 with
    | tup h rl => cases e; exact ⟨_, _, rfl, .inr ⟨_, Same.sqt fz h, rfl⟩, by rw [rl.length]; exact q _ _ _ (Nxt.refl fz ob) (.int _)⟩
  · cases e
def absF : List D → M D
  | [.int i] => M.ret (.int (if i < 0 then -i else i))
  | _ => M.fail
theorem snd_abs : SndC X.K (fun xs H Q => ∃ i, xs = [.int i] ∧ Q (.int (if i < 0 then -i else i)) H) absF := by
  intro G H b vs ds d b' Q r fz ob e q
  unfold absF at e
  split at e
  · obtain ⟨v, rfl, r1⟩ := r.one
    cases r1
    cases e
    exact ⟨_, rfl, q _ _ _ (Nxt.refl fz ob) (.int _)⟩
  · cases e
def intF : List D → M D
  | [.int i] => M.ret (.int i)
  | [.bl k] => M.ret (.int (if k then 1 else 0))
  | [.str x] => match PySem.intText? ⟨x.toArray⟩ with
    | some n => M.guard (decide (x.length ≤ 640)) (M.ret (.int n))
    | none => M.fail
  | _ => M.fail
theorem CallR.or {c : Value} {r r' : List V → Hp → VK → Prop} (h : CallR X c r) (h' : CallR X c r') : CallR X c (fun xs H Q => r xs H Q ∨ r' xs H Q) := by
  intro pins s σ H xs us Q I rs q
  rcases q with q | q
  · exact h pins s σ H xs us Q I rs q
  · exact h' pins s σ H xs us Q I rs q
theorem snd_int : SndC X.K (fun xs H Q => ((∃ i, xs = [.int i] ∧ Q (.int i) H) ∨ ∃ k, xs = [.bl k] ∧ Q (.int (if k then 1 else 0)) H) ∨ (∃ a n, xs = [.str a] ∧ PySem.intText? a = some n ∧ a.length ≤ 640 ∧ Q (.int n) H)) intF := by
  intro G H b vs ds d b' Q r fz ob e q
  unfold intF at e
  split at e
  · obtain ⟨v, rfl, r1⟩ := r.one
    cases r1
    cases e
    exact .inl (.inl ⟨_, rfl, q _ _ _ (Nxt.refl fz ob) (.int _)⟩)
  · obtain ⟨v, rfl, r1⟩ := r.one
    cases r1
    cases e
    exact .inl (.inr ⟨_, rfl, q _ _ _ (Nxt.refl fz ob) (.int _)⟩)
  · obtain ⟨v, rfl, r1⟩ := r.one
    cases r1
    rename_i x
    cases e1 : PySem.intText? ⟨x.toArray⟩ with
    | none => rw [e1] at e; cases e
    | some n =>
      rw [e1] at e
      obtain ⟨c, e⟩ := M.guard_some e
      cases e
      exact .inr ⟨_, n, rfl, e1, by rw [szStr]; exact of_decide_eq_true c, q _ _ _ (Nxt.refl fz ob) (.int _)⟩
  · cases e
variable {x : Str} {p : Pos} {e : Expr} {fa : Env → M (List D)}
theorem d_len (hg : Gl X "len") (hm : X.mg "len" = none) (ha : DA X [e] fa) (he : starEach [e] X.env = (false, eval e X.env) :: starEach [] X.env := by rfl) : DE X (.Call (.Name "len" p) [e] [] pos) (fun ρ => M.bind (fa ρ) lenF) :=
  d_callB call_len snd_len hg hm PySem.boot_len ha (he := he)
theorem d_abs (hg : Gl X "abs") (hm : X.mg "abs" = none) (ha : DA X [e] fa) (he : starEach [e] X.env = (false, eval e X.env) :: starEach [] X.env := by rfl) : DE X (.Call (.Name "abs" p) [e] [] pos) (fun ρ => M.bind (fa ρ) absF) :=
  d_callB call_abs snd_abs hg hm (by decide +kernel) ha (he := he)
theorem d_cint (hg : Gl X "int") (hm : X.mg "int" = none) (ha : DA X [e] fa) (he : starEach [e] X.env = (false, eval e X.env) :: starEach [] X.env := by rfl) : DE X (.Call (.Name "int" p) [e] [] pos) (fun ρ => M.bind (fa ρ) intF) :=
  d_callTy (CallR.or call_int1 call_int_str) snd_int hg hm (by decide +kernel) ha (he := he)
/-! text.join(list of texts) -/
def asTs : List D → Option (List (List Nat))
  | [] => some []
  | .str x :: r => match asTs r with
    | some l => some (x :: l)
    | none => none
  | _ => none
def joinF (s : D) (l : D) : M D := match s, l with
  | .str a, .lst ds => match asTs ds with
    | some xs => M.guard (decide ((xs.map List.length).sum + xs.length * a.length ≤ 16777216)) (M.ret (D.str (TL.joinL a xs)))
    | none => M.fail
  | _, _ => M.fail
theorem joinF_some {s l d : D} {b b' : Bs} (h : joinF s l b = some (d, b')) : ∃ a ds xs, s = .str a ∧ l = .lst ds ∧ asTs ds = some xs ∧ (xs.map List.length).sum + xs.length * a.length ≤ 16777216 ∧ d = .str (TL.joinL a xs) ∧ b = b' := by
  cases s with
  | str a =>
    cases l with
    | lst ds =>
      have h' : (match asTs ds with
        | some xs => M.guard (decide ((xs.map List.length).sum + xs.length * a.length ≤ 16777216)) (M.ret (D.str (TL.joinL a xs)))
        | none => M.fail) b = some (d, b') := h
      cases e4 : asTs ds with
      | none => rw [e4] at h'; cases h'
      | some xs =>
        rw [e4] at h'
        obtain ⟨c, e3⟩ := M.guard_some h'
        cases e3
        exact ⟨a, ds, xs, rfl, rfl, e4, of_decide_eq_true c, rfl, rfl⟩
    | _ => cases h
  | _ => cases h
theorem RpL.texts {K : PySem.W.Frag} {G : Hp} : ∀ {vs : List V} {ds : List D} {xs : List (List Nat)}, RpL K G vs ds → asTs ds = some xs → vs = (xs.map fun x => (⟨x.toArray⟩ : Str)).map V.str
  | _, _, _, .nil, h => by cases h; rfl
  | _, _, _, .cons (d := d) (ds := ds) a r, h => by
    cases a with
    | str x =>
      unfold asTs at h
      cases e : asTs ds with
      | none => rw [e] at h; cases h
      | some l =>
        rw [e] at h
        cases h
        rw [RpL.texts r e]
        rfl
    | _ => cases h
theorem join_tl (a : List Nat) (xs : List (List Nat)) : Txt.join ⟨a.toArray⟩ (xs.map fun x => (⟨x.toArray⟩ : Str)) = ⟨(TL.joinL a xs).toArray⟩ := by
  exact SX.join_S a xs
theorem d_join {apos : Pos} (ha : DE X a f) (hb : DE X b g) (hs : starEach [b] X.env = [(false, eval b X.env)] := by rfl) (hbase : attributeBase a "join" X.env (eval a X.env) = eval a X.env := by rfl) (hline : (apos.endLine == pos.line) = true := by rfl) :
    DE X (.Call (.Attribute a "join" apos) [b] [] pos) (fun ρ => M.bind (f ρ) fun x => M.bind (g ρ) fun y => joinF x y) := by
  refine PEimp (pe_join ha hb hs hbase hline) ?_
  rintro σ H Q ⟨ρ, G, b, d, b', rs, fz, ob, e, q⟩
  obtain ⟨x, b1, e1, e⟩ := M.bind_some e
  obtain ⟨y, b2, e2, e3⟩ := M.bind_some e
  refine ⟨ρ, G, b, x, b1, rs, fz, ob, e1, fun v G1 H1 n1 r1 => ?_⟩
  cases r1 with
  | str a =>
    refine ⟨⟨_, rfl⟩, ρ, G1, b1, y, b2, rs.mono n1.gg, n1.fz, n1.bag, e2, fun v2 G2 H2 n2 r2 => ?_⟩
    obtain ⟨a0, ds, xs, z1, rfl, e4, c, rfl, rfl⟩ := joinF_some e3
    cases z1
    cases r2 with
    | lst h rl =>
      have hv := rl.texts e4
      subst hv
      refine ⟨_, _, _, rfl, rfl, .inl (SqL.of (n2.fz _ _ h)), ?_, ?_⟩
      · have ee : (List.map (fun (z : Str) => z.length) (xs.map fun x => (⟨x.toArray⟩ : Str))) = xs.map List.length := by
          rw [List.map_map]
          apply List.map_congr_left
          intro z _
          exact szStr z
        rw [ee, szStr, List.length_map]
        exact c
      · rw [join_tl]
        exact q _ _ _ (n1.trans n2) (.str _)
  | _ => obtain ⟨_, _, _, z, _⟩ := joinF_some e3; cases z
end
end DL
set_option Elab.async false
set_option maxRecDepth 100000
set_option autoImplicit false
set_option linter.unusedVariables false
set_option maxHeartbeats 4000000
namespace DL
open PySem L2 PySem.Spec PyProof.Rows
/-! ### defs: what they promise, by functions of data -/
def spD (K : PySem.W.Frag) (n : Nat) (F : List D → M D) : Sp := fun vs H Q _ => ∃ G b ds d b', RpL K G vs ds ∧ ds.length = n ∧ Same G H ∧ BagOk G H b ∧ F ds b = some (d, b') ∧
  ∀ v G' H', Nxt G H b G' H' b' → Rp K G' v d → Q v H'
def spN (K : PySem.W.Frag) (n : Nat) (F : List D → M (List D)) : Sp := fun vs H Q _ => ∃ G b ds xs b', RpL K G vs ds ∧ ds.length = n ∧ Same G H ∧ BagOk G H b ∧ F ds b = some (xs, b') ∧
  ∀ p ws G' H', Nxt G H b G' H' b' → H p = none → G' p = none → H' p = some (.lst ws) → RpL K G' ws xs → Q (.ref p) H'
def startD (m : Nat) (ds : List D) : Env2 := ds.map (fun d => some (.val d)) ++ List.replicate (m - ds.length) none
def runD (m : Nat) (F : Env2 → M Out) (ds : List D) : M D := M.bind (F (startD m ds)) fun o => match o with
  | .rt d => M.ret d
  | .rn xs => M.ret (.lst xs)
  | .nx _ => M.ret .non
  | _ => M.fail
def runN (m : Nat) (F : Env2 → M Out) (ds : List D) : M (List D) := M.bind (F (startD m ds)) fun o => match o with
  | .rn xs => M.ret xs
  | _ => M.fail
theorem SI.start {K : PySem.W.Frag} {N : List Str} {G H : Hp} {b : Bs} {vs : List V} {ds : List D} (r : RpL K G vs ds) (fz : Same G H) (ob : BagOk G H b) : SI K ⟨G, H, b⟩ (L2.start N vs) (startD N.length ds) G H b := by
  have hl := r.length
  have old : ∀ (i : Nat) (s : Slot), (startD N.length ds)[i]? = some (some s) → ∃ d, ds[i]? = some d ∧ s = .val d := fun i s h => by
    unfold startD at h
    by_cases hi : i < ds.length
    · rw [List.getElem?_append_left (by simpa using hi), List.getElem?_map] at h
      rw [List.getElem?_eq_getElem hi] at h ⊢
      cases h
      exact ⟨_, rfl, rfl⟩
    · rw [List.getElem?_append_right (by simpa using hi)] at h
      by_cases h2 : i - (ds.map fun d => some (Slot.val d)).length < N.length - ds.length
      · rw [List.getElem?_replicate_of_lt h2] at h; cases h
      · rw [List.getElem?_eq_none (by simpa using h2)] at h; cases h
  refine ⟨fz, fun _ _ h => h, fun _ _ _ h => h, fun _ _ h _ => h, ob, b.like_refl, ?_, fun i d h => ?_, fun i xs h => ?_, fun i j xs ys p h1 => ?_⟩
  · unfold startD L2.start
    simp [hl]
  · obtain ⟨d', h1, h2⟩ := old i _ h
    cases h2
    obtain ⟨v, h3, h4⟩ := r.get h1
    refine ⟨v, ?_, h4⟩
    unfold L2.start
    have hi : i < vs.length := (List.getElem?_eq_some_iff.mp h3).1
    rw [List.getElem?_append_left (by simpa using hi), List.getElem?_map, h3]
    rfl
  · obtain ⟨d', h1, h2⟩ := old i _ h
    cases h2
  · obtain ⟨d', e1, e2⟩ := old i _ h1
    cases e2
theorem run_d {K : PySem.W.Frag} {N : List Str} {n : Nat} {Fs : Env2 → M Out} {vs : List V} {H : Hp} {Q : VK} {E : XK} (h : spD K n (runD N.length Fs) vs H Q E) : tS K Fs { nx := fun _ H' => Q .non H', rt := Q } (L2.start N vs) H := by
  obtain ⟨G, b, ds, d, b', r, hn, fz, ob, e, q⟩ := h
  obtain ⟨o, b1, e1, e2⟩ := M.bind_some e
  refine ⟨⟨G, H, b⟩, _, G, b, o, b1, SI.start r fz ob, e1, ?_⟩
  cases o with
  | rt d => cases e2; exact fun v G' H' n r => q v G' H' n r
  | rn xs =>
    cases e2
    intro p ws G' H' n hp gp hh r
    · have sg : Same G' (upd G' p (.lst ws)) := fun a o h => by rw [upd_ne (ne_of_none h gp)]; exact h
      refine q (.ref p) (upd G' p (.lst ws)) H' ⟨fun a o h => sg a o (n.gg a o h), fun a o h => ?_, n.keep, fun a o h hn => ?_, ?_, n.like⟩ (.lst upd_same (r.mono sg))
      · by_cases ea : a = p
        · subst ea; rw [upd_same] at h; cases h; exact hh
        · rw [upd_ne ea] at h; exact n.fz a o h
      · rw [upd_ne (ne_of_none h hp)]; exact n.new a o h hn
      · have ob' := n.bag
        cases b' with
        | none => trivial
        | some g =>
          obtain ⟨h1, h2, h3⟩ := ob'
          refine ⟨?_, h2, sg _ _ h3⟩
          have nb := bag_ne ob hp
          rw [upd_ne fun z => nb (by rw [Bs.like_at n.like, ← z]; rfl)]
          exact h1
  | nx ρ => cases e2; exact fun σ' G' H' I => q .non G' H' I.nxt .non
  | bk ρ => cases e2
  | ct ρ => cases e2
theorem run_n {K : PySem.W.Frag} {N : List Str} {n : Nat} {Fs : Env2 → M Out} {vs : List V} {H : Hp} {Q : VK} {E : XK} (h : spN K n (runN N.length Fs) vs H Q E) : tS K Fs { nx := fun _ H' => Q .non H', rt := Q } (L2.start N vs) H := by
  obtain ⟨G, b, ds, xs, b', r, hn, fz, ob, e, q⟩ := h
  obtain ⟨o, b1, e1, e2⟩ := M.bind_some e
  refine ⟨⟨G, H, b⟩, _, G, b, o, b1, SI.start r fz ob, e1, ?_⟩
  cases o with
  | rn xs => cases e2; exact fun p ws G' H' n hp gp hh r => q p ws G' H' n hp gp hh r
  | rt d => cases e2
  | nx ρ => cases e2
  | bk ρ => cases e2
  | ct ρ => cases e2
/-! ### defs where no repr is running -/
structure FnG (P : Program) (w : World) (K : PySem.W.Frag) (mg : Str → Option Value) (base : Heap) (k : Nat) (f : Addr) (fd : FuncData) (ps : List Str) (sp : Sp) : Prop where
  len : ∀ vs H Q E, sp vs H Q E → vs.length = ps.length
  run : ∀ (A : Around) (outer : List PySem.Env) (s : Shared) (H : Hp) (args : Args) (us : List Value) (vs : List V) (Q : VK), Room k A → A.guards = some [] →
    Env0 P w K mg base A outer s H → BindsTo s fd args (ps.zip us) → Vals vs us → sp vs H Q E0 → codeAny (model P w) A (.call (.ref f) args) (CR CX0 outer P w H s Q E0) s
section
variable {P : Program} {w : World} {K : PySem.W.Frag} {mg : Str → Option Value} {base : Heap}
theorem FnG.of {k : Nat} {f : Addr} {fd : FuncData} {ps : List Str} {sp : Sp} (F : FnOk P w K mg base CX0 k f fd ps sp) : FnG P w K mg base k f fd ps sp :=
  ⟨F.len, fun A outer s H args us vs Q hr _ e0 hb hv hs => F.run A outer s H args us vs Q E0 hr e0 hb hv hs⟩
theorem fn_g {x qual : Str} {st : Stmt} {f : Addr} {fd : FuncData} {N ps : List Str} {k : Nat} {sp : Sp} (F : Fun K x qual st f fd) (S : FnScope N ps (defScope st)) (len : ∀ vs H Q E, sp vs H Q E → vs.length = ps.length)
    (hbody : ∀ (cdv : Value) (A : Around) (outer : List PySem.Env) (s : Shared) (H : Hp) (vs : List V) (Q : VK), Room k (A.deeper (envOfC qual (defScope st) s.heap.objs.size f cdv)) → A.guards = some [] → sp vs H Q E0 →
      ∃ t, PSs (cxOf CX0 P w K mg base N qual (defScope st) f cdv A outer s H E0).nox (defBody st) t ∧ t { nx := fun _ H' => Q .non H', rt := Q } (L2.start N vs) H) : FnG P w K mg base (k + 1) f fd ps sp := by
  obtain ⟨oc, od, kV, doc, pm, an, cdv, ct, osl, rfl, lk, hcd⟩ := F.ex
  refine ⟨len, fun A outer s H args us vs Q hr hgd e0 hb r hsp => ?_⟩
  have hl := len _ _ _ _ hsp
  have bk := fun b o (e : base.get? b = some o) => (e0.bs b o e).1
  have KX : K.In s.heap := e0.mod.kin.keeps bk
  have lim : s.heap.NoLimit := e0.mod.nolimit.keeps bk
  refine codeAny_call_function hr.depth (KX _ _ lk) rfl S.co S.gen rfl (PySem.W.codeRec_of KX hcd) (hb _ _ _ _ ?_)
  refine wpAny_newFunctionEnv_cells S.kind (fun y hy => ?_) fun env he s1 x => ?_
  · rcases S.par y.1 (List.of_mem_zip (show (y.1, y.2) ∈ _ from hy)).1 with q | q
    · exact .inl q
    · exact .inr ⟨q, PySem.W.cellsFrom_some _ _ _ (.inl q)⟩
  subst he
  refine ⟨lim.keeps x.toInCall.keep, codeAny_func ?_⟩
  obtain ⟨t, ht, hq⟩ := hbody cdv A outer s H vs Q (hr.deeper _) hgd hsp
  have ht := ht.nox
  have I : Inv (cxOf CX0 P w K mg base N qual (defScope st) f cdv A outer s H E0) [] (L2.start N vs) H s1 := inv_start S hr.hd e0 hl r x
  refine wpAny_mono (ht.run [] s1 (L2.start N vs) H _ I hq) (fun fl s' hs => ?_) fun e s' hs => hs
  cases fl with
  | ret u => obtain ⟨v, σ', H', J, rv, q⟩ := hs; exact ⟨v, H', J.os, J.bare, J.base, J.hok, rv, q⟩
  | next => obtain ⟨σ', H', J, q⟩ := hs; exact ⟨.non, H', J.os, J.bare, J.base, J.hok, rfl, q⟩
  | brk => obtain ⟨_, _, _, q⟩ := hs; exact False.elim q
  | cont => obtain ⟨_, _, _, q⟩ := hs; exact False.elim q
theorem spD_len {n : Nat} {F : List D → M D} {ps : List Str} (hn : n = ps.length) : ∀ vs H Q E, spD K n F vs H Q E → vs.length = ps.length := by
  rintro vs H Q E ⟨G, b, ds, d, b', r, h, _⟩
  rw [r.length, h, hn]
theorem spN_len {n : Nat} {F : List D → M (List D)} {ps : List Str} (hn : n = ps.length) : ∀ vs H Q E, spN K n F vs H Q E → vs.length = ps.length := by
  rintro vs H Q E ⟨G, b, ds, d, b', r, h, _⟩
  rw [r.length, h, hn]
variable {x qual : Str} {st : Stmt} {f : Addr} {fd : FuncData} {N ps : List Str} {k : Nat} {Fs : Env2 → M Out}
theorem fnD (F : Fun K x qual st f fd) (S : FnScope N ps (defScope st)) (hb : ∀ (cdv : Value) (A : Around) (outer : List PySem.Env) (s : Shared) (H : Hp) (E : XK), Room k (A.deeper (envOfC qual (defScope st) s.heap.objs.size f cdv)) →
      DSs (cxOf CX0 P w K mg base N qual (defScope st) f cdv A outer s H E).nox (defBody st) Fs) : FnOk P w K mg base CX0 (k + 1) f fd ps (spD K ps.length (runD N.length Fs)) :=
  F.ok S (spD_len rfl) fun cdv A outer s H vs Q E hr h => ⟨_, hb cdv A outer s H E hr, run_d h⟩
theorem fnN (F : Fun K x qual st f fd) (S : FnScope N ps (defScope st)) (hb : ∀ (cdv : Value) (A : Around) (outer : List PySem.Env) (s : Shared) (H : Hp) (E : XK), Room k (A.deeper (envOfC qual (defScope st) s.heap.objs.size f cdv)) →
      DSs (cxOf CX0 P w K mg base N qual (defScope st) f cdv A outer s H E).nox (defBody st) Fs) : FnOk P w K mg base CX0 (k + 1) f fd ps (spN K ps.length (runN N.length Fs)) :=
  F.ok S (spN_len rfl) fun cdv A outer s H vs Q E hr h => ⟨_, hb cdv A outer s H E hr, run_n h⟩
theorem fnGD (F : Fun K x qual st f fd) (S : FnScope N ps (defScope st)) (hb : ∀ (cdv : Value) (A : Around) (outer : List PySem.Env) (s : Shared) (H : Hp), Room k (A.deeper (envOfC qual (defScope st) s.heap.objs.size f cdv)) → A.guards = some [] →
      DSs (cxOf CX0 P w K mg base N qual (defScope st) f cdv A outer s H E0).nox (defBody st) Fs) : FnG P w K mg base (k + 1) f fd ps (spD K ps.length (runD N.length Fs)) :=
  fn_g F S (spD_len rfl) fun cdv A outer s H vs Q hr hg h => ⟨_, hb cdv A outer s H hr hg, run_d h⟩
theorem fnGN (F : Fun K x qual st f fd) (S : FnScope N ps (defScope st)) (hb : ∀ (cdv : Value) (A : Around) (outer : List PySem.Env) (s : Shared) (H : Hp), Room k (A.deeper (envOfC qual (defScope st) s.heap.objs.size f cdv)) → A.guards = some [] →
      DSs (cxOf CX0 P w K mg base N qual (defScope st) f cdv A outer s H E0).nox (defBody st) Fs) : FnG P w K mg base (k + 1) f fd ps (spN K ps.length (runN N.length Fs)) :=
  fn_g F S (spN_len rfl) fun cdv A outer s H vs Q hr hg h => ⟨_, hb cdv A outer s H hr hg, run_n h⟩
end
/-! ### calls of defs -/
section
variable {X : Cx} {k : Nat} {f : Addr} {fd : FuncData} {ps : List Str} {sp : Sp} {x : Str} {p pos : Pos} {e : Expr} {es : List Expr} {t : TA} {n : Nat} {Fn : List D → M D} {Fl : List D → M (List D)} {fa : Env → M (List D)}
theorem pe_callG (F : FnG X.prog X.w X.K X.mg X.base k f fd ps sp) (hr : Room k X.A) (hgd : X.A.guards = some []) (hg : Gl X x) (hm : X.mg x = some (.ref f)) (hk : PySem.W.keepIn X.K (.ref f) = true) (hb : Binds X.K fd ps [])
    (ha : PA X (e :: es) t) (hdb : (x == ("__debug__" : Str)) = false := by decide) (he : starEach (e :: es) X.env = (false, eval e X.env) :: starEach es X.env := by rfl) (hpl : (backTo pos (starEach es X.env)).any (·.1) = false := by rfl) :
    PE X (.Call (.Name x p) (e :: es) [] pos) (tCall sp [] E0 t) := by
  refine ⟨fun pins s σ H Q I h => wpAny_Call_Name_kw (ld_glob I hg hm ?_ hdb)⟩
  refine PySem.W.callWith_K (h₀ := X.base) I.ok.mod.kin hk (thn (ha.run pos pins s σ H _ I h) fun us s1 ⟨vs, H1, I1, r, q⟩ => ⟨I1.kIn, ?_⟩) he hpl
  have q : sp vs H1 Q E0 := by
    have q' : sp (vs ++ []) H1 Q E0 := q
    rw [List.append_nil] at q'
    exact q'
  have hl : (us ++ []).length = ps.length := by rw [List.append_nil, ← r.length]; exact F.len _ _ _ _ q
  have hb1 := hb s1 us I1.kIn hl
  rw [List.append_nil] at hb1
  refine wpAny_call (codeAny_mono (F.run X.A X.stack s1 H1 ⟨us, []⟩ us vs Q hr hgd I1.env0 hb1 r q) fun rr s' hq => ?_)
  cases rr with
  | error e => exact False.elim hq
  | ok fl =>
    cases fl with
    | ret u => exact I1.after hq
    | next => exact False.elim hq
    | brk => exact False.elim hq
    | cont => exact False.elim hq
theorem call_f {K : PySem.W.Frag} (hn : ∀ ρ b ds b', fa ρ b = some (ds, b') → ds.length = n) : ∀ σ H Q, tF K (fun ρ => M.bind (fa ρ) Fn) σ H Q → tCall (spD K n Fn) [] E0 (tFA K fa) σ H Q := by
  rintro σ H Q ⟨ρ, G, b, d, b', rs, fz, ob, e, q⟩
  obtain ⟨ds, b1, e1, e2⟩ := M.bind_some e
  refine ⟨ρ, G, b, ds, b1, rs, fz, ob, e1, fun vs G1 H1 n1 r1 => ?_⟩
  exact ⟨G1, b1, ds, d, b', by rw [List.append_nil]; exact r1, hn _ _ _ _ e1, n1.fz, n1.bag, e2, fun v G2 H2 n2 r2 => q v G2 H2 (n1.trans n2) r2⟩
theorem callN_f {K : PySem.W.Frag} (hn : ∀ ρ b ds b', fa ρ b = some (ds, b') → ds.length = n) : ∀ σ H Q, tN K (fun ρ => M.bind (fa ρ) Fl) σ H Q → tCall (spN K n Fl) [] E0 (tFA K fa) σ H Q := by
  rintro σ H Q ⟨ρ, G, b, d, b', rs, fz, ob, e, q⟩
  obtain ⟨ds, b1, e1, e2⟩ := M.bind_some e
  refine ⟨ρ, G, b, ds, b1, rs, fz, ob, e1, fun vs G1 H1 n1 r1 => ?_⟩
  exact ⟨G1, b1, ds, d, b', by rw [List.append_nil]; exact r1, hn _ _ _ _ e1, n1.fz, n1.bag, e2, fun p ws G2 H2 n2 hp gp hh r2 => q p ws G2 H2 (n1.trans n2) (n1.free hp) gp hh r2⟩
/-- how many arguments come -/
def ArN (fa : Env → M (List D)) (n : Nat) : Prop := ∀ ρ b ds b', fa ρ b = some (ds, b') → ds.length = n
theorem ar_nil : ArN (fun _ => M.ret []) 0 := fun ρ b ds b' h => by cases h; rfl
theorem ar_cons {f : Env → M D} {g : Env → M (List D)} {n : Nat} (h : ArN g n) : ArN (fun ρ => M.bind (f ρ) fun x => M.bind (g ρ) fun xs => M.ret (x :: xs)) (n + 1) := fun ρ b ds b' e => by
  obtain ⟨y, b1, _, e⟩ := M.bind_some e
  obtain ⟨l, b2, e2, e3⟩ := M.bind_some e
  cases e3
  simp [h _ _ _ _ e2]
theorem d_call (F : FnOk X.prog X.w X.K X.mg X.base CX0 k f fd ps (spD X.K n Fn)) (hr : Room k X.A) (hg : Gl X x) (hm : X.mg x = some (.ref f)) (hk : PySem.W.keepIn X.K (.ref f) = true) (hb : Binds X.K fd ps []) (ha : DA X (e :: es) fa) (hn : ArN fa n)
    (hdb : (x == ("__debug__" : Str)) = false := by decide) (he : starEach (e :: es) X.env = (false, eval e X.env) :: starEach es X.env := by rfl) (hpl : (backTo pos (starEach es X.env)).any (·.1) = false := by rfl) :
    DE X (.Call (.Name x p) (e :: es) [] pos) (fun ρ => M.bind (fa ρ) Fn) := PEimp (pe_call F hr hg hm hk hb .nil (fun _ _ _ _ _ _ _ h => h.elim) ha hdb he hpl) (call_f hn)
theorem dn_call (F : FnOk X.prog X.w X.K X.mg X.base CX0 k f fd ps (spN X.K n Fl)) (hr : Room k X.A) (hg : Gl X x) (hm : X.mg x = some (.ref f)) (hk : PySem.W.keepIn X.K (.ref f) = true) (hb : Binds X.K fd ps []) (ha : DA X (e :: es) fa) (hn : ArN fa n)
    (hdb : (x == ("__debug__" : Str)) = false := by decide) (he : starEach (e :: es) X.env = (false, eval e X.env) :: starEach es X.env := by rfl) (hpl : (backTo pos (starEach es X.env)).any (·.1) = false := by rfl) :
    DN X (.Call (.Name x p) (e :: es) [] pos) (fun ρ => M.bind (fa ρ) Fl) := PEimp (pe_call F hr hg hm hk hb .nil (fun _ _ _ _ _ _ _ h => h.elim) ha hdb he hpl) (callN_f hn)
theorem d_callG (F : FnG X.prog X.w X.K X.mg X.base k f fd ps (spD X.K n Fn)) (hr : Room k X.A) (hgd : X.A.guards = some []) (hg : Gl X x) (hm : X.mg x = some (.ref f)) (hk : PySem.W.keepIn X.K (.ref f) = true) (hb : Binds X.K fd ps []) (ha : DA X (e :: es) fa) (hn : ArN fa n)
    (hdb : (x == ("__debug__" : Str)) = false := by decide) (he : starEach (e :: es) X.env = (false, eval e X.env) :: starEach es X.env := by rfl) (hpl : (backTo pos (starEach es X.env)).any (·.1) = false := by rfl) :
    DE X (.Call (.Name x p) (e :: es) [] pos) (fun ρ => M.bind (fa ρ) Fn) := PEimp (pe_callG F hr hgd hg hm hk hb ha hdb he hpl) (call_f hn)
theorem dn_callG (F : FnG X.prog X.w X.K X.mg X.base k f fd ps (spN X.K n Fl)) (hr : Room k X.A) (hgd : X.A.guards = some []) (hg : Gl X x) (hm : X.mg x = some (.ref f)) (hk : PySem.W.keepIn X.K (.ref f) = true) (hb : Binds X.K fd ps []) (ha : DA X (e :: es) fa) (hn : ArN fa n)
    (hdb : (x == ("__debug__" : Str)) = false := by decide) (he : starEach (e :: es) X.env = (false, eval e X.env) :: starEach es X.env := by rfl) (hpl : (backTo pos (starEach es X.env)).any (·.1) = false := by rfl) :
    DN X (.Call (.Name x p) (e :: es) [] pos) (fun ρ => M.bind (fa ρ) Fl) := PEimp (pe_callG F hr hgd hg hm hk hb ha hdb he hpl) (callN_f hn)
end
/-! ### repr, and _law_alike -/
section
variable {X : Cx}
theorem call_reprD (hg : X.A.guards = some []) (hu : X.A.units + 70 < cLine) : CallR X (.builtin "repr") (fun xs H Q => ∃ x d, xs = [x] ∧ Dp X.K H x d ∧ d.showable = true ∧ SeqAt.shaped d = true ∧ d.shown.length ≤ sizeLine ∧ Q (.str d.shown) H) := by
  intro pins s σ H xs us Q I r h
  obtain ⟨x, d, rfl, hd, h1, h2, h3, q⟩ := h
  obtain ⟨u, rfl, ru⟩ := vals1 r
  obtain ⟨as, rd⟩ := Dp.reads I d x u hd ru
  have h2' : (d.canLay0 && decide (d.depth ≤ 64)) = true := h2
  simp only [Bool.and_eq_true, decide_eq_true_eq] at h2'
  cases hd with
  | non => cases ru; exact PySem.P.repr_of_none ⟨.str _, H, I.tok _, ⟨_, rfl⟩, q⟩
  | bl b => cases ru; exact PySem.P.repr_of_bool ⟨.str _, H, I.tok _, ⟨_, rfl⟩, q⟩
  | int i => obtain ⟨t, rfl⟩ := ru; exact PySem.P.repr_of_int (by simpa [PyData.showable] using h1) ⟨.str _, H, I.tok _, ⟨_, rfl⟩, q⟩
  | str z => obtain ⟨t, rfl⟩ := ru; exact PySem.P.repr_of_str ⟨.str _, H, I.tok _, ⟨_, rfl⟩, q⟩ h3
  | lst _ _ =>
    cases ru
    exact repr_of_reads' rd h1 (PyData.noDict_hsm (PyData.hasDict_of_canLay _ h2'.1)) hg (by omega) (fun _ _ e => e) (fun h' t tk hk => ⟨.str _, H, I.kept hk, ⟨_, rfl⟩, q⟩) h3
  | tup _ _ =>
    cases ru
    exact repr_of_reads' rd h1 (PyData.noDict_hsm (PyData.hasDict_of_canLay _ h2'.1)) hg (by omega) (fun _ _ e => e) (fun h' t tk hk => ⟨.str _, H, I.kept hk, ⟨_, rfl⟩, q⟩) h3
end
end DL
set_option Elab.async false
set_option maxRecDepth 100000
set_option autoImplicit false
set_option linter.unusedVariables false
set_option maxHeartbeats 4000000
namespace DL
open PySem L2 PySem.Spec PyProof.Rows
/-! ### repr(x) of data -/
def okA (d : D) : Bool := match toPy d with
  | some e => e.showable && SeqAt.shaped e && decide (e.shown.length ≤ sizeLine)
  | none => false
def reprF : List D → M D
  | [x] => match toPy x with
    | some e => M.guard (e.showable && SeqAt.shaped e && decide (e.shown.length ≤ sizeLine)) (M.ret (.str e.shown.cps.toList))
    | none => M.fail
  | _ => M.fail
theorem snd_repr {X : Cx} : SndC X.K (fun xs H Q => ∃ x d, xs = [x] ∧ Dp X.K H x d ∧ d.showable = true ∧ SeqAt.shaped d = true ∧ d.shown.length ≤ sizeLine ∧ Q (.str d.shown) H) reprF := by
  intro G H b vs ds d b' Q r fz ob e q
  unfold reprF at e
  split at e
  · rename_i x
    obtain ⟨v, rfl, r1⟩ := r.one
    cases e1 : toPy x with
    | none => rw [e1] at e; cases e
    | some p =>
      rw [e1] at e
      obtain ⟨c, e⟩ := M.guard_some e
      cases e
      simp only [Bool.and_eq_true, decide_eq_true_eq] at c
      refine ⟨v, p, rfl, (r1.mono fz).dp e1, c.1.1, c.1.2, c.2, ?_⟩
      have h := q (.str ⟨p.shown.cps.toList.toArray⟩) G H (Nxt.refl fz ob) (.str _)
      simpa using h
  · cases e
theorem d_repr {X : Cx} {p pos : Pos} {e : Expr} {fa : Env → M (List D)} (hgd : X.A.guards = some []) (hu : X.A.units + 70 < cLine) (hg : Gl X "repr") (hm : X.mg "repr" = none) (ha : DA X [e] fa) (he : starEach [e] X.env = (false, eval e X.env) :: starEach [] X.env := by rfl) :
    DE X (.Call (.Name "repr" p) [e] [] pos) (fun ρ => M.bind (fa ρ) reprF) := d_callB (call_reprD hgd hu) snd_repr hg hm boot_repr ha (he := he)
theorem eqDeep_same {d : D} (h : okA d = true) : eqDeep false d d = M.ret (.bl true) := by
  unfold okA at h
  unfold eqDeep
  cases e : toPy d with
  | none => rw [e] at h; cases h
  | some p =>
    rw [e] at h
    simp only [Bool.and_eq_true, decide_eq_true_eq] at h
    have h2 : (p.canLay0 && decide (p.depth ≤ 64)) = true := h.1.2
    rw [Bool.and_eq_true] at h2
    show M.guard (SeqAt.shaped p && SeqAt.shaped p) (M.ret (D.bl (PyData.eqv p p))) = _
    rw [h.1.2, SeqAt.eqv_refl p h2.1]
    rfl
theorem eqD_same {d : D} (h : okA d = true) : eqD false d d = M.ret (.bl true) := by
  cases d with
  | int i => simp [eqD]
  | str i => simp [eqD]
  | bl i => simp [eqD]
  | _ => exact eqDeep_same h
theorem reprF_ok {d : D} (h : okA d = true) : ∃ x, reprF [d] = M.ret (.str x) := by
  unfold okA at h
  unfold reprF
  cases e : toPy d with
  | none => rw [e] at h; cases h
  | some p =>
    rw [e] at h
    refine ⟨p.shown.cps.toList, ?_⟩
    show (match toPy d with
      | some e => M.guard (e.showable && SeqAt.shaped e && decide (e.shown.length ≤ sizeLine)) (M.ret (D.str e.shown.cps.toList))
      | none => M.fail) = _
    rw [e]
    exact M.guard_of h
/-- what shows is short enough -/
def Okd (k w : Nat) (d : D) : Prop := ∃ e, toPy d = some e ∧ e.showable = true ∧ e.canLay0 = true ∧ e.depth ≤ k ∧ e.shown.length ≤ w
theorem Okd.ok {k w : Nat} {d : D} (h : Okd k w d) (hk : k ≤ 64) (hw : w ≤ sizeLine) : okA d = true := by
  obtain ⟨e, h1, h2, h3, h4, h5⟩ := h
  unfold okA
  rw [h1]
  show (e.showable && (e.canLay0 && decide (e.depth ≤ 64)) && decide (e.shown.length ≤ sizeLine)) = true
  rw [h2, h3, decide_eq_true (by omega : e.depth ≤ 64), decide_eq_true (by omega : e.shown.length ≤ sizeLine)]
  rfl
theorem Okd.str {x : List Nat} (h : x.all (fun c => decide (c < 1114112)) = true) : Okd 0 (10 * x.length + 8) (.str x) := by
  have h3 : PyData.canLay0 (.str ⟨x.toArray⟩) = true := by
    show (⟨x.toArray⟩ : Str).cps.all (fun c => decide (c < 0x110000)) = true
    simpa using h
  refine ⟨_, by unfold toPy; rfl, by simp [PyData.showable], h3, by simp [PyData.depth], ?_⟩
  have := PyData.shown_le 8 (Nat.le_refl _) (.str ⟨x.toArray⟩) (PyData.leavesShort_of_canLay0 8 _ h3 (by simp [PyData.intsShort]))
  have hw : PyData.weight (.str ⟨x.toArray⟩) = x.length := by simp [PyData.weight]
  rw [hw] at this
  exact this
theorem Okd.int {i : Int} (h : i.natAbs < 10 ^ 12) : Okd 0 13 (.int i) := by
  refine ⟨.int i, by unfold toPy; rfl, ?_, by simp [PyData.canLay0], by simp [PyData.depth], PyData.shown_int_le h⟩
  simp only [PyData.showable, decide_eq_true_eq]
  by_cases h0 : i.natAbs = 0
  · rw [h0]; decide
  · have : i.natAbs < 2 ^ 40 := Nat.lt_of_lt_of_le h (by decide)
    have := (Nat.log2_lt h0).mpr this
    omega
theorem Okd.bl (b : Bool) : Okd 0 5 (.bl b) := ⟨.bool b, by unfold toPy; rfl, by simp [PyData.showable], by simp [PyData.canLay0], by simp [PyData.depth], by cases b <;> decide +kernel⟩
theorem Okd.non : Okd 0 5 .non := ⟨.none, by unfold toPy; rfl, by simp [PyData.showable], by simp [PyData.canLay0], by simp [PyData.depth], by decide +kernel⟩
theorem Okd.mono {k k' w w' : Nat} {d : D} (h : Okd k w d) (hk : k ≤ k') (hw : w ≤ w') : Okd k' w' d := by
  obtain ⟨e, h1, h2, h3, h4, h5⟩ := h
  exact ⟨e, h1, h2, h3, Nat.le_trans h4 hk, Nat.le_trans h5 hw⟩
theorem Okd.all {k w : Nat} : ∀ {ds : List D}, (∀ d ∈ ds, Okd k w d) → ∃ es, toPyL ds = some es ∧ PyData.showableAll es = true ∧ PyData.canLayAll0 es = true ∧ PyData.depthAll es ≤ k ∧ ((PyData.shownAll es).map (·.length)).sum ≤ ds.length * w ∧ (PyData.shownAll es).length = ds.length
  | [], _ => ⟨[], by unfold toPyL; rfl, by simp [PyData.showableAll], by simp [PyData.canLayAll0], by simp [PyData.depthAll], by simp [PyData.shownAll], by simp [PyData.shownAll]⟩
  | d :: ds, h => by
    obtain ⟨e, h1, h2, h3, h4, h5⟩ := h d (by simp)
    obtain ⟨es, g1, g2, g3, g4, g5, g6⟩ := Okd.all (ds := ds) fun d' hd => h d' (by simp [hd])
    refine ⟨e :: es, by unfold toPyL; rw [h1, g1], by simp [PyData.showableAll, h2, g2], by simp [PyData.canLayAll0, h3, g3], by simp only [PyData.depthAll]; omega, ?_, by simp [PyData.shownAll, g6]⟩
    simp only [PyData.shownAll, List.map_cons, List.sum_cons, List.length_cons]
    rw [Nat.succ_mul]
    omega
theorem Okd.lst {k w : Nat} {ds : List D} (h : ∀ d ∈ ds, Okd k w d) : Okd (k + 1) (ds.length * (w + 2) + 3) (.lst ds) := by
  obtain ⟨es, g1, g2, g3, g4, g5, g6⟩ := Okd.all h
  refine ⟨.list es, by unfold toPy; rw [g1], by simp [PyData.showable, g2], by simp [PyData.canLay0, g3], by simp only [PyData.depth]; omega, ?_⟩
  simp only [PyData.shown]
  have := listText_len_le (PyData.shownAll es)
  rw [g6] at this
  rw [Nat.mul_add]
  omega
theorem Okd.tup {k w : Nat} {ds : List D} (h : ∀ d ∈ ds, Okd k w d) : Okd (k + 1) (ds.length * (w + 2) + 3) (.tup ds) := by
  obtain ⟨es, g1, g2, g3, g4, g5, g6⟩ := Okd.all h
  refine ⟨.tuple es, by unfold toPy; rw [g1], by simp [PyData.showable, g2], by simp [PyData.canLay0, g3], by simp only [PyData.depth]; omega, ?_⟩
  simp only [PyData.shown]
  have := tupleText_len_le (PyData.shownAll es)
  rw [g6] at this
  rw [Nat.mul_add]
  omega
/-! ### the bag's stores -/
theorem SI.bagset {K : PySem.W.Frag} {E : En} {σ : L2.St} {ρ : Env2} {G H : Hp} {g g' : Bg} (I : SI K E σ ρ G H (some g)) (h1 : g.p = g'.p) (h2 : g.q = g'.q) (h3 : g.cs = g'.cs) :
    SI K E σ ρ G (upd H g.p (.lst [.int g'.z0, .int g'.z1, .int g'.z2, .ref g'.q])) (some g') := by
  obtain ⟨o1, o2, o3⟩ := I.bag
  have eb : E.b.at = some g.p := Bs.like_at I.like
  refine ⟨fun a o h => ?_, I.g0, I.new, fun a o h hb => ?_, ⟨by rw [← h1]; exact o1, by rw [← h1, upd_same], by rw [← h2, ← h3]; exact o3⟩, ?_, I.len, I.val, fun i xs h => ?_, I.inj⟩
  · rw [upd_ne (ne_of_none h o1)]; exact I.fz a o h
  · rw [upd_ne fun z => hb (by rw [eb, z])]; exact I.keep a o h hb
  · exact Bs.like_trans I.like ⟨h1, h2, h3⟩
  · obtain ⟨p, vs, e1, e2, e3, e4, e5, e6⟩ := I.own i xs h
    refine ⟨p, vs, e1, e2, e3, ?_, e5, ?_⟩
    · rw [upd_ne fun z => e6 (by rw [z]; rfl)]; exact e4
    · intro z
      apply e6
      show some g.p = some p
      rw [h1]; exact z
def putB (k : Int) (n : Int) (g : Bg) : Option Bg := if k = 0 then some { g with z0 := n } else if k = 1 then some { g with z1 := n } else if k = 2 then some { g with z2 := n } else none
theorem putB_some {k n : Int} {g g' : Bg} (h : putB k n g = some g') : g.p = g'.p ∧ g.q = g'.q ∧ g.cs = g'.cs ∧ ∃ j, ixN 4 k = some j ∧ [V.int g'.z0, .int g'.z1, .int g'.z2, .ref g'.q] = [V.int g.z0, .int g.z1, .int g.z2, .ref g.q].set j (.int n) := by
  unfold putB at h
  by_cases h0 : k = 0
  · rw [if_pos h0] at h; cases h; subst h0; exact ⟨rfl, rfl, rfl, 0, rfl, rfl⟩
  · rw [if_neg h0] at h
    by_cases h1 : k = 1
    · rw [if_pos h1] at h; cases h; subst h1; exact ⟨rfl, rfl, rfl, 1, rfl, rfl⟩
    · rw [if_neg h1] at h
      by_cases h2 : k = 2
      · rw [if_pos h2] at h; cases h; subst h2; exact ⟨rfl, rfl, rfl, 2, rfl, rfl⟩
      · rw [if_neg h2] at h; cases h
def bagPut (j : Nat) (k : Int) (d : D) (ρ : Env2) : M Out := fun b => match ρ[j]?, d, b with
  | some (some (.val (.bag p))), .int n, some g => if g.p = p then (putB k n g).map fun g' => (.nx ρ, some g') else none
  | _, _, _ => none
theorem bagPut_some {j : Nat} {k : Int} {d : D} {ρ : Env2} {b b' : Bs} {o : Out} (h : bagPut j k d ρ b = some (o, b')) : ∃ n g g', ρ[j]? = some (some (.val (.bag g.p))) ∧ d = .int n ∧ b = some g ∧ b' = some g' ∧ o = .nx ρ ∧ putB k n g = some g' := by
  unfold bagPut at h
  split at h
  · rename_i p n g e1
    by_cases hp : g.p = p
    · rw [if_pos hp] at h
      cases e : putB k n g with
      | none => rw [e] at h; cases h
      | some g' => rw [e] at h; cases h; exact ⟨n, g, g', by rw [hp]; exact e1, rfl, rfl, rfl, rfl, e⟩
    · rw [if_neg hp] at h; cases h
  · cases h
def bagSetM (j : Nat) (k : Int) (ms : List Nat) (f : Env → M D) (ρ : Env2) : M Out := M.bind (f (view ms ρ)) fun d => bagPut j k d ρ
section
variable {X : Cx} {pos : Pos}
theorem s_bagset (j : Nat) (ms : List Nat) {k : Int} {x : Str} {e : Expr} {f : Env → M D} {p1 p2 p3 : Pos} {kk : Nat} (he : DE X e f) (hN : X.N[j]? = some x := by rfl) (hv : Vis X.env.scope x := by first | exact Or.inl rfl | exact Or.inr (Or.inl rfl) | exact Or.inr (Or.inr rfl))
    (hd : (x == ("__debug__" : Str)) = false := by decide) (hcd : (x == ("__classdict__" : Str)) = false := by decide)
    (hs : swapsWithSole [.Subscript (.Name x p1) (.Constant (.int k) kk p2) p3] e pos.line X.env = pure false := by rfl) (hw : swappedStores [.Subscript (.Name x p1) (.Constant (.int k) kk p2) p3] e X.env = pure none := by rfl) :
    DS X (.Assign [.Subscript (.Name x p1) (.Constant (.int k) kk p2) p3] e pos) (bagSetM j k ms f) := by
  refine PSimp (ps_asg he (pg_sub (pe_var hN hv hd hcd) pe_int set_list) hs hw) ?_
  rintro D σ H ⟨E, ρ, G, b, o, b', I, e, q⟩
  obtain ⟨d, b1, e1, e2⟩ := M.bind_some e
  obtain ⟨n, g, g', hj, rfl, rfl, rfl, rfl, hp⟩ := bagPut_some e2
  refine ⟨_, _, b, _, _, I.rs ms, I.gp2 ms, I.gpb ms, e1, fun v G1 H1 n1 r => ?_⟩
  cases r
  have I2 := I.flat n1
  obtain ⟨v, h1, h2⟩ := I2.val j _ hj
  cases h2
  obtain ⟨l1, l2, l3, jj, hix, hset⟩ := putB_some hp
  refine ⟨_, h1, g.p, _, k, jj, rfl, rfl, I2.bag.2.1, hix, ?_⟩
  have I3 := I2.bagset l1 l2 l3
  rw [hset] at I3
  exact q _ _ _ I3
def rGetL (K : PySem.W.Frag) : V → V → Hp → VK → Prop := fun o i H Q => ∃ (p : Addr) (xs : List V) (k : Int) (v : V), o = .ref p ∧ i = .int k ∧ 0 ≤ k ∧ SqL K H p xs ∧ xs[k.toNat]? = some v ∧ Q v H
theorem get_list : PGet X (rGetL X.K) := by
  intro pins s σ H o i ov iv Q I ro ri h
  obtain ⟨p, xs, k, v, rfl, rfl, h0, hq, hx, q⟩ := h
  cases ro
  obtain ⟨t, rfl⟩ := ri
  obtain ⟨its, r, pl, hz⟩ := I.list hq
  obtain ⟨w, ew, rw'⟩ := r.get hx
  have hl : k.toNat < xs.length := (List.getElem?_eq_some_iff.mp hx).1
  have hn := line63
  exact wpAny_getItem_list pl.isList h0 (by omega) (by simpa using ew) ⟨v, H, I, rw', q⟩
def bagAugM (j : Nat) (k : Int) (ms : List Nat) (f : Env → M D) (ρ : Env2) : M Out := M.bind (f (view ms ρ)) fun d => fun b => match d, b with
  | .int n, some g => bagPut j k (.int ((if k = 0 then g.z0 else if k = 1 then g.z1 else g.z2) + n)) ρ (some g)
  | _, _ => none
/-- bag[k] += n, n a constant -/
theorem s_bagaug (j : Nat) (ms : List Nat) {k n : Int} {x : Str} {p1 p2 p3 p4 : Pos} {kk kn : Nat} (hk : k = 0 ∨ k = 1 ∨ k = 2) (hN : X.N[j]? = some x := by rfl) (hv : Vis X.env.scope x := by first | exact Or.inl rfl | exact Or.inr (Or.inl rfl) | exact Or.inr (Or.inr rfl))
    (hd : (x == ("__debug__" : Str)) = false := by decide) (hcd : (x == ("__classdict__" : Str)) = false := by decide) :
    DS X (.AugAssign (.Subscript (.Name x p1) (.Constant (.int k) kk p2) p3) .Add (.Constant (.int n) kn p4) pos) (bagAugM j k ms fun _ => M.ret (.int n)) := by
  refine PSimp (ps_augS (pe_var hN hv hd hcd) pe_int get_list pe_int ip_add set_list) ?_
  rintro D σ H ⟨E, ρ, G, b, o, b', I, e, q⟩
  obtain ⟨d, b1, e1, e2⟩ := M.bind_some e
  cases e1
  cases b with
  | none => cases e2
  | some g =>
    obtain ⟨m, g0, g', hj, e0, e3, rfl, rfl, hp⟩ := bagPut_some e2
    cases e0
    cases e3
    obtain ⟨v, h1, h2⟩ := I.val j _ hj
    cases h2
    obtain ⟨l1, l2, l3, jj, hix, hset⟩ := putB_some hp
    refine ⟨_, h1, g.p, [.int g.z0, .int g.z1, .int g.z2, .ref g.q], k, .int (if k = 0 then g.z0 else if k = 1 then g.z1 else g.z2), rfl, rfl, ?_, SqL.of I.bag.2.1, ?_, _, n, rfl, rfl, g.p, _, k, jj, rfl, rfl, I.bag.2.1, hix, ?_⟩
    · rcases hk with rfl | rfl | rfl <;> decide
    · rcases hk with rfl | rfl | rfl <;> rfl
    · have I3 := I.bagset l1 l2 l3
      rw [hset] at I3
      exact q _ _ _ I3
end
/-! ### totally correct, with the bag at p -/
def okB (p : Addr) (g : Bg) : Prop := g.p = p ∧ 0 ≤ g.z2
def Tot {α : Type} (p : Addr) (m : M α) (P : α → Prop) : Prop := ∀ g, okB p g → ∃ a g', m (some g) = some (a, some g') ∧ okB p g' ∧ P a
theorem Tot.ret {α : Type} {p : Addr} {a : α} {P : α → Prop} (h : P a) : Tot p (M.ret a) P := fun g hg => ⟨a, g, rfl, hg, h⟩
theorem Tot.bind {α β : Type} {p : Addr} {m : M α} {f : α → M β} {P : α → Prop} {Q : β → Prop} (h : Tot p m P) (k : ∀ a, P a → Tot p (f a) Q) : Tot p (M.bind m f) Q := fun g hg => by
  obtain ⟨a, g1, e1, h1, p1⟩ := h g hg
  obtain ⟨c, g2, e2, h2, p2⟩ := k a p1 g1 h1
  exact ⟨c, g2, by rw [M.bind_eq e1]; exact e2, h2, p2⟩
theorem Tot.mono {α : Type} {p : Addr} {m : M α} {P Q : α → Prop} (h : Tot p m P) (k : ∀ a, P a → Q a) : Tot p m Q := fun g hg => by
  obtain ⟨a, g1, e1, h1, p1⟩ := h g hg
  exact ⟨a, g1, e1, h1, k a p1⟩
end DL
set_option Elab.async false
set_option maxRecDepth 100000
set_option autoImplicit false
set_option linter.unusedVariables false
set_option maxHeartbeats 4000000
namespace DL
open PySem L2 PySem.Spec PyProof.Rows
/-! ### the law itself -/
def spLaw (K : PySem.W.Frag) : Sp := fun vs H Q _ => ∃ (a : Addr) (ns : List Int), vs = [.ref a] ∧ SqL K H a (ns.map V.int) ∧ ns.length ≤ 63 ∧ ∀ H', Q (.bl true) H'
def env0 (n : Nat) (p : Addr) : Env2 := none :: some (.val (.bag p)) :: List.replicate n none
theorem ints_of {K : PySem.W.Frag} {G : Hp} : ∀ {vs : List V} {cs : List Int}, RpL K G vs (cs.map D.int) → vs = cs.map V.int
  | _, [], .nil => rfl
  | _, c :: cs, .cons a r => by
    cases a
    rw [ints_of (cs := cs) r]
    rfl
theorem law_run {K : PySem.W.Frag} {N : List Str} {n : Nat} {FB : List D → M (List D)} {Fs : Env2 → M Out} {vs : List V} {H : Hp} {Q : VK} {E : XK} (hN : N.length = n + 2)
    (hbag : ∀ ns : List Int, ns.length ≤ 63 → ∃ cs : List Int, FB [.scr ns] none = some ([.int 0, .int 1234567891, .int 0, .lst (cs.map D.int)], none))
    (hmath : ∀ (p : Addr), Tot p (Fs (env0 n p)) fun o => o = .rt (.bl true))
    (h : spLaw K vs H Q E) : tSeq (tAsg (tCall (spN K 1 FB) [] E0 (tFA K fun ρ => M.bind (rdEnv 0 ρ) fun x => M.bind (M.ret []) fun xs => M.ret (x :: xs))) (gName 1)) (tS K Fs) { nx := fun _ H' => Q .non H', rt := Q } (L2.start N vs) H := by
  obtain ⟨a, ns, rfl, hs, hl, q⟩ := h
  obtain ⟨cs, hb⟩ := hbag ns hl
  have same : Same H H := fun _ _ h => h
  refine ⟨[some (.scr ns)], H, none, [.scr ns], none, ⟨?_, fun i d hi => ?_⟩, same, trivial, rfl, fun vs G' H' n1 r => ?_⟩
  · unfold L2.start; simp
  · cases i with
    | zero => cases hi; exact ⟨.ref a, rfl, .scr hs⟩
    | succ i => cases hi
  · refine ⟨G', none, [.scr ns], _, none, by rw [List.append_nil]; exact r, rfl, n1.fz, trivial, hb, fun p ws G2 H2 n2 hp gp hh r2 => ?_⟩
    have np : H p = none := n1.free hp
    cases r2 with
    | cons a1 r2 =>
    cases a1
    cases r2 with
    | cons a2 r2 =>
    cases a2
    cases r2 with
    | cons a3 r2 =>
    cases a3
    cases r2 with
    | cons a4 r2 =>
    cases r2
    cases a4 with
    | @lst qq vs4 _ hq rq =>
      have ev := ints_of rq
      subst ev
      obtain ⟨o, g', e, _, ho⟩ := hmath p ⟨p, qq, 0, 1234567891, 0, cs⟩ ⟨rfl, Int.le_refl 0⟩
      subst ho
      refine ⟨⟨G2, H2, some ⟨p, qq, 0, 1234567891, 0, cs⟩⟩, env0 n p, G2, some ⟨p, qq, 0, 1234567891, 0, cs⟩, .rt (.bl true), some g', ?_, e, ?_⟩
      · have slot : ∀ (i : Nat) (s : Slot), (env0 n p)[i]? = some (some s) → i = 1 ∧ s = .val (.bag p) := fun i s h => by
          unfold env0 at h
          match i with
          | 0 => cases h
          | 1 => cases h; exact ⟨rfl, rfl⟩
          | i + 2 =>
            simp only [List.getElem?_cons_succ] at h
            by_cases hi : i < n
            · rw [List.getElem?_replicate_of_lt hi] at h; cases h
            · rw [List.getElem?_eq_none (by simpa using hi)] at h; cases h
        refine ⟨n2.fz, fun _ _ h => h, fun _ _ _ h => h, fun _ _ h _ => h, ⟨gp, hh, hq⟩, ⟨rfl, rfl, rfl⟩, ?_, fun i d h => ?_, fun i xs h => ?_, fun i j xs ys q h1 => ?_⟩
        · unfold env0 L2.start
          simp [hN]
        · obtain ⟨rfl, h2⟩ := slot i _ h
          cases h2
          refine ⟨.ref p, ?_, .bag p⟩
          unfold L2.start
          rw [hN]
          simp
        · obtain ⟨_, h2⟩ := slot i _ h
          cases h2
        · obtain ⟨_, h2⟩ := slot i _ h1
          cases h2
      · intro v G3 H3 n3 rv
        cases rv
        exact q H3
/-! ### the end of a law -/
theorem law_callG {P : Program} {w : World} {K : PySem.W.Frag} {mg mb : Str → Option Value} {k : Nat} {fa a : Addr} {fd : FuncData} {x : Str} {s1 : Shared} {vs : List Value} {ns : List Int}
    (KX : K.In s1.heap) (hns : s1.heap.Ns mainGlobals mg) (hb : s1.heap.Ns builtinsNs mb) (hbb : ∀ x : Str, x ≠ "__name__" → mb x = bootBuiltins x) (hlim : s1.heap.NoLimit) (hg : s1.gens = #[])
    (ha : s1.heap.get? a = some { cls := .type "list", data := .seq vs.toArray }) (hi : IntsAre vs ns) (hl : ns.length ≤ 63) (hr : Room k callerA)
    (F : ∀ base : Heap, K.In base → base.Ns mainGlobals mg → FnG P w K mg base k fa fd [x] (spLaw K)) (hbind : ∀ (s : Shared) (u : Value), BindsTo s fd ⟨[u], []⟩ [(x, u)]) :
    codeAny (model P w) callerA (.call (.ref fa) ⟨[.ref a], []⟩) (fun r s' => r = .ok (.ret (.bool true)) ∧ OldK s1.heap s'.heap ∧ s'.os = s1.os ∧ AllBare s'.gens) s1 := by
  have rv := vals_ints hi
  have hsz : ns.length ≤ sizeLine := Nat.le_trans hl (by decide)
  have main : ∀ H : Hp, Only H → SqL K H a (ns.map V.int) → HOk P w H s1.heap → (∀ b u, H b = some u → b = a ∧ K.lookup a = none) →
      codeAny (model P w) callerA (.call (.ref fa) ⟨[.ref a], []⟩) (fun r s' => r = .ok (.ret (.bool true)) ∧ OldK s1.heap s'.heap ∧ s'.os = s1.os ∧ AllBare s'.gens) s1 := by
    intro H hO hS hok hA
    have dict_free : ∀ {b : Addr} {o : Obj} {es : Array DictEntry} {ep : Nat}, s1.heap.get? b = some o → o.data = .dict es ep → H b = none := by
      intro b o es ep e d
      cases q : H b with
      | none => rfl
      | some u =>
        obtain ⟨rfl, _⟩ := hA b u q
        rw [ha] at e
        cases e
        cases (show Data.seq vs.toArray _ = Data.dict es ep from d)
    have nsK : ∀ {b : Addr} {m : Str → Option Value}, s1.heap.Ns b m → (hidT s1.heap H).Ns b m := by
      rintro b m ⟨o, es, ep, e, d, r⟩
      exact ⟨o, es, ep, hidT_get e (dict_free e d), d, r⟩
    have hKb : K.In (hidT s1.heap H) := by
      intro b o e
      refine hidT_get (KX b o e) ?_
      cases q : H b with
      | none => rfl
      | some u =>
        obtain ⟨rfl, h2⟩ := hA b u q
        rw [h2] at e; cases e
    have lim : (hidT s1.heap H).NoLimit := by
      obtain ⟨mc, h1, h2⟩ := hlim
      exact ⟨mc, nsK h1, h2⟩
    have e0 : Env0 P w K mg (hidT s1.heap H) callerA [] s1 H :=
      ⟨rfl, ⟨hKb, nsK hns, ⟨mb, nsK hb, hbb⟩, lim⟩, fun b o e => of_hidT e, Nat.le_of_eq (hidT_size _ _), trivial, fun b hb => (nomatch (show b ∈ ([] : List Addr) from hb)), hok, .of_eq hg⟩
    have fin := (F _ hKb (nsK hns)).run callerA [] s1 H ⟨[.ref a], []⟩ [.ref a] [.ref a] (fun v _ => v = .bl true) hr rfl e0 (hbind s1 (.ref a)) (.cons rfl .nil) ⟨a, ns, rfl, hS, hl, fun _ => rfl⟩
    refine codeAny_mono fin fun r s' h => ?_
    cases r with
    | error e => exact False.elim h
    | ok fl =>
      cases fl with
      | next => exact False.elim h
      | brk => exact False.elim h
      | cont => exact False.elim h
      | ret u =>
        obtain ⟨v, H', os, bare, un, hok', r', q⟩ := h
        have q : v = .bl true := q
        subst q
        cases (show u = Value.bool true from r')
        refine ⟨rfl, OldK.of_keep fun b o e => ?_, os, bare⟩
        rcases hO b with z | ⟨ob, xs, z⟩
        · exact un.keep b o e z (by intro h; cases h) (by intro h; cases h)
        · have e1 := (hok b _ z).1
          have e2 := (hok' b _ (un.frzs b ob _ z)).1
          rw [e] at e1
          cases e1
          exact e2
  cases hk : K.lookup a with
  | some o =>
    have e := KX a o hk
    rw [ha] at e
    cases e
    refine main (fun _ => none) (fun _ => .inl rfl) (.inr ⟨_, vs.toArray, _, hk, rfl, rfl, rfl, ?_, by simpa using rv⟩) (fun b u z => nomatch z) (fun b u z => nomatch z)
    rw [List.size_toArray, hi.length]; exact hsz
  | none =>
    let ob : Obj := { cls := .type "list", data := .seq vs.toArray }
    refine main (fun b => if b = a then some (.frz ob (.lst (ns.map V.int))) else none) (fun b => ?_) (.inl (.inr ⟨ob, if_pos rfl⟩)) (fun b u z => ?_) (fun b u z => ?_)
    · by_cases hb : b = a
      · exact .inr ⟨_, _, if_pos hb⟩
      · exact .inl (if_neg hb)
    · replace z : (if b = a then some (HO.frz ob (.lst (ns.map V.int))) else none) = some u := z
      by_cases hb : b = a
      · rw [if_pos hb] at z
        cases z
        subst hb
        exact ⟨ha, by rw [List.length_map]; exact hsz, vs, _, rv, ha⟩
      · rw [if_neg hb] at z; cases z
    · replace z : (if b = a then some (HO.frz ob (.lst (ns.map V.int))) else none) = some u := z
      by_cases hb : b = a
      · exact ⟨hb, hk⟩
      · rw [if_neg hb] at z; cases z
theorem walk_g {l : PySem.W.OpenLaw} {k : Nat} {q : Program} {loose : List Str} {XP : (Str → Option Value) → Heap → Prop} {YP : World → Heap → Prop} {d : DefRec} {K : Params → PySem.W.Frag} {x : Str}
    (hn : l.most = some 63) (hdf : d.params.defaults = []) (hr : Room k callerA) (hY : ∀ (w : World) (h : Heap), YP w h → (K w.params).In h)
    (F : ∀ (w : World) (mg : Str → Option Value) (fa : Addr) (h : Heap), (K w.params).In h → h.Ns mainGlobals mg → mg d.name = some (.ref fa) →
      ∃ fd : FuncData, (∀ (s : Shared) (u : Value), BindsTo s fd ⟨[u], []⟩ [(x, u)]) ∧ ∀ base : Heap, (K w.params).In base → base.Ns mainGlobals mg → FnG l.prog w (K w.params) mg base k fa fd [x] (spLaw (K w.params))) :
    PySem.W.WalkO q loose XP YP l.row.toRowW d [] (fun f vs => PySem.call f vs) := by
  refine Att.attach_call hn hdf fun w s0 s1 mg mb fa o pm cd doc a vs ns G Y ho hd hcd hmg hobj hints hlen hg => ?_
  have KX := hY w _ Y
  obtain ⟨fd, hb, hF⟩ := F w mg fa _ KX G.T.g hmg
  exact law_callG KX G.T.g G.T.b G.T.builtins G.T.nolimit hg hobj hints hlen hr hF hb
end DL
set_option Elab.async false
set_option maxRecDepth 100000
set_option autoImplicit false
set_option linter.unusedVariables false
set_option maxHeartbeats 4000000
namespace DL
open PySem L2 PySem.Spec PyProof.Rows
/-! ### short words for the printed functions -/
abbrev e2 (h : D → D → M D) (f g : Env → M D) : Env → M D := fun ρ => M.bind (f ρ) fun x => M.bind (g ρ) fun y => h x y
abbrev t2 (h : D → D → M D) (f g : Env → M D) : Env → M Bool := fun ρ => M.bind (f ρ) fun x => M.bind (g ρ) fun y => M.bind (h x y) asB
abbrev e1 (h : D → M D) (f : Env → M D) : Env → M D := fun ρ => M.bind (f ρ) h
abbrev cst (d : D) : Env → M D := fun _ => M.ret d
abbrev aN : Env → M (List D) := fun _ => M.ret []
abbrev aC (f : Env → M D) (g : Env → M (List D)) : Env → M (List D) := fun ρ => M.bind (f ρ) fun x => M.bind (g ρ) fun xs => M.ret (x :: xs)
abbrev eCall (h : List D → M D) (f : Env → M (List D)) : Env → M D := fun ρ => M.bind (f ρ) h
abbrev nCall (h : List D → M (List D)) (f : Env → M (List D)) : Env → M (List D) := fun ρ => M.bind (f ρ) h
abbrev eN (f : Env → M (List D)) : Env → M D := fun ρ => M.bind (f ρ) fun xs => M.ret (.lst xs)
abbrev nLst (g : Env → M (List D)) : Env → M (List D) := fun ρ => M.bind (g ρ) fun xs => M.guard (szL xs) (M.ret xs)
abbrev eTup (g : Env → M (List D)) : Env → M D := fun ρ => M.bind (g ρ) fun xs => M.guard (szL xs) (M.ret (.tup xs))
abbrev tVal (f : Env → M D) : Env → M Bool := fun ρ => M.bind (f ρ) truD
abbrev tNotM (f : Env → M Bool) : Env → M Bool := fun ρ => M.bind (f ρ) fun k => M.ret (!k)
abbrev tAndM (f g : Env → M Bool) : Env → M Bool := fun ρ => M.bind (f ρ) fun k => if k = true then g ρ else M.ret false
abbrev tOrM (f g : Env → M Bool) : Env → M Bool := fun ρ => M.bind (f ρ) fun k => if k = true then M.ret true else g ρ
abbrev eAnd (f g : Env → M D) : Env → M D := fun ρ => M.bind (f ρ) fun x => M.bind (asB x) fun k => if k = true then g ρ else M.ret (.bl false)
abbrev eOr (f g : Env → M D) : Env → M D := fun ρ => M.bind (f ρ) fun x => M.bind (asB x) fun k => if k = true then M.ret (.bl true) else g ρ
abbrev eNot (f : Env → M D) : Env → M D := fun ρ => M.bind (f ρ) fun x => M.bind (asB x) fun k => M.ret (.bl (!k))
abbrev eIf (t : Env → M Bool) (f g : Env → M D) : Env → M D := fun ρ => M.bind (t ρ) fun k => if k = true then f ρ else g ρ
abbrev iAny (f : Env → M D) : Env → M (List D) := fun ρ => M.bind (f ρ) itemsD
abbrev iRng1 (f : Env → M (List D)) : Env → M (List D) := fun ρ => M.bind (f ρ) rng1
abbrev iRng2 (f : Env → M (List D)) : Env → M (List D) := fun ρ => M.bind (f ρ) rng2
abbrev nLc (vs : List Nat) (gi : Env → M (List D)) (bs : D → Option (List (Nat × D))) (c : Env → M Bool) (e : Env → M D) : Env → M (List D) := fun ρ => M.bind (gi ρ) fun xs => M.bind (compM bs c e (wipeD ρ vs) xs) fun ys => M.guard (szL ys) (M.ret ys)
abbrev cT : Env → M Bool := fun _ => M.ret true
abbrev oN : Env → M (Option Int) := fun _ => M.ret none
abbrev oS (f : Env → M D) : Env → M (Option Int) := fun ρ => M.bind (f ρ) asI
abbrev eSl (f : Env → M D) (fl fh : Env → M (Option Int)) : Env → M D := fun ρ => M.bind (f ρ) fun x => M.bind (fl ρ) fun l => M.bind (fh ρ) fun h => slD l h x
abbrev sNil : Env2 → M Out := fun ρ => M.ret (.nx ρ)
/-! ### defs as they stand -/
structure FnAt (K : PySem.W.Frag) (mg : Str → Option Value) (x : Str) (st : Stmt) (ps : List Str) (f : Addr) (fd : FuncData) : Prop where
  fn : Fun K x x st f fd
  bd : Binds K fd ps []
  gl : mg x = some (.ref f)
section
variable {X : Cx} {pos : Pos}
/-- y = [..], y a local -/
theorem s_setLc (i : Nat) (ms : List Nat) {y : Str} {py : Pos} {elt tg iter : Expr} {ifs : List Expr} {scope : Scope} {own : List (Str × Nat)} {cpos : Pos} {gi : Env → M (List D)} {g : TG} {bs : D → Option (List (Nat × D))} {is : List Nat} {c : Env → M Bool} {e : Env → M D}
    (hc : X.calm = true) (hN : X.N.Nodup) (hy : X.N[i]? = some y) (hyl : X.env.scope.names.lookup y = some .local)
    (hsw : swapsWith (.ListComp elt [⟨tg, iter, ifs, 0⟩] scope cpos) (some (.Name y py)) pos.line X.env = pure true) (hi : DI X tg iter gi) (ok : BlkOk X.N X.env.scope scope own) (ht : TgOk X.K g bs is) (his : is.all (fun i => (own.map (·.2)).contains i) = true)
    (hg : ∀ (s : Shared) (H : Hp) (C : Addr) (cl : List (Str × Addr)) (fp : List Addr), PG (X.blk s H scope (compEnvC scope cl C X.env) fp) tg g) (htt : ∀ (s : Shared) (H : Hp) (C : Addr) (cl : List (Str × Addr)) (fp : List Addr), DTs (X.blk s H scope (compEnvC scope cl C X.env) fp) ifs c)
    (he : ∀ (s : Shared) (H : Hp) (C : Addr) (cl : List (Str × Addr)) (fp : List Addr), DE (X.blk s H scope (compEnvC scope cl C X.env) fp) elt e) (hs : ∀ x, foldedSetIterable iter X.env x = pure x := by intro _; rfl) :
    DS X (.Assign [.Name y py] (.ListComp elt [⟨tg, iter, ifs, 0⟩] scope cpos) pos) (setNM i ms (nLc (own.map (·.2)) gi bs c e)) := by
  refine PSimp (ps_setLc (te := tF X.K e) (tt := tFT X.K c) hc hN hy hyl hsw hi ok hg htt he hs) ?_
  rintro D σ H ⟨E, ρ, G, b, o, b', I, e, q⟩
  obtain ⟨xs, b1, e1, e2⟩ := M.bind_some e
  cases e2
  refine lc_f ht (fun i hi => by have := List.all_eq_true.mp his i hi; simpa using this) σ H _ ⟨_, _, b, xs, b', I.rs ms, I.gp2 ms, I.gpb ms, e1, fun p vs G1 H1 n1 hp gn hh r => ?_⟩
  obtain ⟨G2, I2⟩ := I.newOwn n1 i hp gn hh r
  exact q _ G2 H1 I2
/-- a, b = x, y (two locals) -/
def parM (i j : Nat) (ms : List Nat) (f : Env → M (List D)) (ρ : Env2) : M Out := M.bind (f (view ms ρ)) fun ds => match ds with
  | [d, e] => M.ret (.nx (((keepIf (d.flat && e.flat) ms ρ).set i (some (.val d))).set j (some (.val e))))
  | _ => M.fail
theorem s_par (i j : Nat) (ms : List Nat) {x y : Str} {a b : Expr} {f : Env → M (List D)} {px py pt : Pos} {kt k2 pt2} (hc : X.calm = true) (hN : X.N.Nodup) (hi : X.N[i]? = some x) (hj : X.N[j]? = some y) (hij : i ≠ j)
    (hx : X.env.scope.names.lookup x = some .local) (hy : X.env.scope.names.lookup y = some .local) (ha : DA X [a, b] f) (hs : starEach [a, b] X.env = (false, eval a X.env) :: starEach [b] X.env := by rfl)
    (hw : ∀ (h : DA X [a, b] f), PS X (.Assign [.Tuple [.Name x px, .Name y py] kt pt] (.Tuple [a, b] k2 pt2) pos) (tPar i j (tFA X.K f)) := by intro h; exact ps_par (by rfl) (by assumption) (by assumption) (by assumption) (by assumption) (by assumption) (by assumption) h (by rfl)) :
    DS X (.Assign [.Tuple [.Name x px, .Name y py] kt pt] (.Tuple [a, b] k2 pt2) pos) (parM i j ms f) := by
  refine PSimp (hw ha) ?_
  rintro D σ H ⟨E, ρ, G, b, o, b', I, e, q⟩
  obtain ⟨ds, b1, e1, e2⟩ := M.bind_some e
  refine ⟨_, _, b, ds, b1, I.rs ms, I.gp2 ms, I.gpb ms, e1, fun vs G1 H1 n1 r => ?_⟩
  clear e
  match ds, e2, r with
  | [d, d2], e2, .cons r1 (.cons r2 .nil) =>
    cases e2
    refine ⟨_, _, rfl, ?_⟩
    unfold keepIf at q
    cases hf : (d.flat && d2.flat) with
    | true =>
      rw [hf] at q
      rw [Bool.and_eq_true] at hf
      exact q _ G H1 (((I.flat n1).set (r1.flat_any hf.1)).set (r2.flat_any hf.2))
    | false =>
      rw [hf] at q
      exact q _ G1 H1 (((I.frz n1).set r1).set r2)
/-- x += e -/
def augD (f : D → D → M D) (i : Nat) (ms : List Nat) (g : Env → M D) (ρ : Env2) : M Out := match ρ[i]? with
  | some (some (.val x)) => M.bind (g (view ms ρ)) fun y => M.bind (f x y) fun z => M.guard (y.flat && z.flat) (M.ret (.nx (ρ.set i (some (.val z)))))
  | _ => M.fail
theorem ip_addS : PIp X .Add (fun x y H Q => rI0 (fun i j => .int (i + j)) x y H Q ∨ (∃ i j, x = .str i ∧ y = .str j ∧ i.length + j.length ≤ sizeLine ∧ Q (.str (i ++ j)) H)) := by
  intro pins s σ H x y v u Q I rx ry h
  exact (iop_add.or iop_add_str) pins s σ H x y v u Q I rx ry h
def addF : D → D → M D
  | .int i, .int j => M.ret (.int (i + j))
  | .str x, .str y => M.guard (szS (x.length + y.length)) (M.ret (.str (x ++ y)))
  | _, _ => M.fail
theorem s_augAdd (i : Nat) (ms : List Nat) {x : Str} {e : Expr} {g : Env → M D} {pos' : Pos} (hN : X.N.Nodup) (hi : X.N[i]? = some x) (hx : Loc X.env.scope x) (he : DE X e g) (hf : X.fn x = true ∨ X.env.scope.names.lookup x = some .local := by first | exact .inl rfl | exact .inr rfl | assumption) :
    DS X (.AugAssign (.Name x pos') .Add e pos) (augD addF i ms g) := by
  refine PSimp (ps_aug hN hi hx he ip_addS hf) ?_
  rintro D σ H ⟨E, ρ, G, b, o, b', I, e, q⟩
  unfold augD at e
  cases ej : ρ[i]? with
  | none => rw [ej] at e; cases e
  | some s =>
    cases s with
    | none => rw [ej] at e; cases e
    | some s =>
      cases s with
      | own xs => rw [ej] at e; cases e
      | val x =>
        rw [ej] at e
        obtain ⟨y, b1, e1, e⟩ := M.bind_some e
        obtain ⟨z, b2, e2, e⟩ := M.bind_some e
        obtain ⟨c, e⟩ := M.guard_some e
        cases e
        rw [Bool.and_eq_true] at c
        obtain ⟨v, h1, h2⟩ := I.val i x ej
        refine ⟨v, h1, _, _, b, y, b1, I.rs ms, I.gp2 ms, I.gpb ms, e1, fun v2 G1 H1 n1 r => ?_⟩
        have I1 := I.flat n1
        cases h2 with
        | int k =>
          cases r with
          | int m => cases e2; exact .inl ⟨k, m, rfl, rfl, q _ G H1 (I1.set (.int _))⟩
          | _ => cases e2
        | str k =>
          cases r with
          | str m =>
            obtain ⟨c2, e2⟩ := M.guard_some e2
            cases e2
            refine .inr ⟨_, _, rfl, rfl, by rw [szStr, szStr]; exact of_decide_eq_true c2, ?_⟩
            have e3 : ((⟨k.toArray⟩ : Str) ++ (⟨m.toArray⟩ : Str)) = ⟨(k ++ m).toArray⟩ := by
              show (⟨k.toArray ++ m.toArray⟩ : Str) = _
              simp
            rw [e3]
            exact q _ G H1 (I1.set (.str _))
          | _ => cases e2
        | _ => cases r <;> cases e2
/-- targets = e, a tuple taken apart -/
def unpM (bs : D → Option (List (Nat × D))) (ms : List Nat) (f : Env → M D) (ρ : Env2) : M Out := M.bind (f (view ms ρ)) fun d => match bs d with
  | some l => M.ret (.nx (setAll2 (keepIf d.flat ms ρ) l))
  | none => M.fail
theorem s_unp {bs : D → Option (List (Nat × D))} (ms : List Nat) {tg e : Expr} {f : Env → M D} {g : TG} {is : List Nat} (he : DE X e f) (hg : PG X tg g) (ht : TgOk X.K g bs is) (hs : swapsWithSole [tg] e pos.line X.env = pure false := by rfl) (hw : swappedStores [tg] e X.env = pure none := by rfl) (h1 : (assignEach [tg] X.env).map (·.2) = [assign tg X.env] := by rfl) :
    DS X (.Assign [tg] e pos) (unpM bs ms f) := by
  refine PSimp (ps_asg he hg hs hw h1) ?_
  rintro D σ H ⟨E, ρ, G, b, o, b', I, e, q⟩
  obtain ⟨d, b1, e1, e2⟩ := M.bind_some e
  cases eb : bs d with
  | none => rw [eb] at e2; cases e2
  | some l =>
    rw [eb] at e2
    cases e2
    refine ⟨_, _, b, d, b', I.rs ms, I.gp2 ms, I.gpb ms, e1, fun v G1 H1 n1 r => ?_⟩
    obtain ⟨G2, I2, r2⟩ := I.after n1 r
    obtain ⟨lv, pl, il, gq⟩ := ht G2 v d l r2 eb
    exact gq H1 σ _ I2.fz (q _ G2 H1 (SI.setAll pl I2))
end
end DL
set_option Elab.async false
set_option maxRecDepth 100000
set_option autoImplicit false
set_option linter.unusedVariables false
set_option maxHeartbeats 4000000
namespace DL
open PySem L2
/-! ### evaluating functions: one lemma an operation -/
theorem view_eq (ms : List Nat) (ρ : Env2) : view ms ρ = viewAt ms 0 ρ := rfl
theorem viewAt_nil (ms : List Nat) (i : Nat) : viewAt ms i [] = [] := rfl
theorem viewAt_cons (ms : List Nat) (i : Nat) (s : Option Slot) (r : Env2) : viewAt ms i (s :: r) = (if ms.contains i then s.map Slot.see else none) :: viewAt ms (i + 1) r := rfl
theorem frz_eq (ms : List Nat) (ρ : Env2) : frz ms ρ = frzAt ms 0 ρ := rfl
theorem frzAt_nil (ms : List Nat) (i : Nat) : frzAt ms i [] = [] := rfl
theorem frzAt_cons (ms : List Nat) (i : Nat) (s : Option Slot) (r : Env2) : frzAt ms i (s :: r) = (if ms.contains i then s.map (fun s => Slot.val s.see) else s) :: frzAt ms (i + 1) r := rfl
theorem see_val (d : D) : (Slot.val d).see = d := rfl
theorem see_own (xs : List D) : (Slot.own xs).see = .lst xs := rfl
theorem keepIf_t (ms : List Nat) (ρ : Env2) : keepIf true ms ρ = ρ := rfl
theorem keepIf_f (ms : List Nat) (ρ : Env2) : keepIf false ms ρ = frz ms ρ := rfl
theorem flat_int (i : Int) : (D.int i).flat = true := rfl
theorem flat_str (i : List Nat) : (D.str i).flat = true := rfl
theorem flat_bl (i : Bool) : (D.bl i).flat = true := rfl
theorem flat_non : D.non.flat = true := rfl
theorem flat_bag (p : Addr) : (D.bag p).flat = true := rfl
theorem flat_lst (i : List D) : (D.lst i).flat = false := rfl
theorem flat_tup (i : List D) : (D.tup i).flat = false := rfl
theorem flat_obj (C : Addr) (i : List D) : (D.obj C i).flat = false := rfl
theorem rd_some {i : Nat} {ρ : Env} {d : D} (h : ρ[i]? = some (some d)) : rdEnv i ρ = M.ret d := by unfold rdEnv; rw [h]
theorem rd_0 (d : D) (r : Env) : rdEnv 0 (some d :: r) = M.ret d := rfl
theorem rd_s (i : Nat) (o : Option D) (r : Env) : rdEnv (i + 1) (o :: r) = rdEnv i r := rfl
theorem rd_1 (o : Option D) (r : Env) : rdEnv 1 (o :: r) = rdEnv 0 r := rfl
theorem rd_2 (o : Option D) (r : Env) : rdEnv 2 (o :: r) = rdEnv 1 r := rfl
theorem rd_3 (o : Option D) (r : Env) : rdEnv 3 (o :: r) = rdEnv 2 r := rfl
theorem rd_4 (o : Option D) (r : Env) : rdEnv 4 (o :: r) = rdEnv 3 r := rfl
theorem rd_5 (o : Option D) (r : Env) : rdEnv 5 (o :: r) = rdEnv 4 r := rfl
theorem rd_6 (o : Option D) (r : Env) : rdEnv 6 (o :: r) = rdEnv 5 r := rfl
theorem rd_7 (o : Option D) (r : Env) : rdEnv 7 (o :: r) = rdEnv 6 r := rfl
theorem rd_8 (o : Option D) (r : Env) : rdEnv 8 (o :: r) = rdEnv 7 r := rfl
theorem rd_9 (o : Option D) (r : Env) : rdEnv 9 (o :: r) = rdEnv 8 r := rfl
theorem rd_10 (o : Option D) (r : Env) : rdEnv 10 (o :: r) = rdEnv 9 r := rfl
theorem rd_11 (o : Option D) (r : Env) : rdEnv 11 (o :: r) = rdEnv 10 r := rfl
theorem rd_12 (o : Option D) (r : Env) : rdEnv 12 (o :: r) = rdEnv 11 r := rfl
theorem rd_13 (o : Option D) (r : Env) : rdEnv 13 (o :: r) = rdEnv 12 r := rfl
theorem rd_14 (o : Option D) (r : Env) : rdEnv 14 (o :: r) = rdEnv 13 r := rfl
theorem rd_15 (o : Option D) (r : Env) : rdEnv 15 (o :: r) = rdEnv 14 r := rfl
theorem rd_16 (o : Option D) (r : Env) : rdEnv 16 (o :: r) = rdEnv 15 r := rfl
theorem rd_17 (o : Option D) (r : Env) : rdEnv 17 (o :: r) = rdEnv 16 r := rfl
theorem rd_18 (o : Option D) (r : Env) : rdEnv 18 (o :: r) = rdEnv 17 r := rfl
theorem lenF_str {t : List Nat} (h : t.length ≤ 16777216) : lenF [.str t] = M.ret (.int t.length) := M.guard_of (decide_eq_true h)
theorem lenF_lst (t : List D) : lenF [.lst t] = M.ret (.int t.length) := rfl
theorem lenF_tup (t : List D) : lenF [.tup t] = M.ret (.int t.length) := rfl
theorem intF_int (i : Int) : intF [.int i] = M.ret (.int i) := rfl
theorem intF_bl (i : Bool) : intF [.bl i] = M.ret (.int (if i then 1 else 0)) := rfl
theorem absF_int (i : Int) : absF [.int i] = M.ret (.int (if i < 0 then -i else i)) := rfl
theorem modD_int {i j : Int} (h : 0 < j) : modD (.int i) (.int j) = M.ret (.int (i % j)) := by
  show M.of (Option.map D.int (if 0 < j then some (i % j) else none)) = _
  rw [if_pos h]; rfl
theorem divD_int {i j : Int} (h : 0 < j) (h2 : j < 1073741824) : divD (.int i) (.int j) = M.ret (.int (i / j)) := by
  show M.of (Option.map D.int (if 0 < j ∧ j < 1073741824 then some (i / j) else none)) = _
  rw [if_pos ⟨h, h2⟩]; rfl
theorem subD_int (i j : Int) : subD (.int i) (.int j) = M.ret (.int (i - j)) := rfl
theorem addD_int (i j : Int) : addD (.int i) (.int j) = M.ret (.int (i + j)) := rfl
theorem addD_str {x y : List Nat} (h : x.length + y.length ≤ 16777216) : addD (.str x) (.str y) = M.ret (.str (x ++ y)) := M.guard_of (decide_eq_true h)
theorem addD_lst {x y : List D} (h : x.length + y.length ≤ 16777216) : addD (.lst x) (.lst y) = M.ret (.lst (x ++ y)) := M.guard_of (decide_eq_true h)
theorem mulD_int {i j : Int} (h : okM i j = true) : mulD (.int i) (.int j) = M.ret (.int (i * j)) := M.guard_of h
theorem okM_l {i j : Int} (h1 : -18446744073709551616 < i) (h2 : i < 18446744073709551616) : okM i j = true := by
  unfold okM
  rw [Bool.or_eq_true, Bool.and_eq_true]
  exact .inl ⟨decide_eq_true h1, decide_eq_true h2⟩
theorem okM_r {i j : Int} (h1 : -18446744073709551616 < j) (h2 : j < 18446744073709551616) : okM i j = true := by
  unfold okM
  rw [Bool.or_eq_true, Bool.and_eq_true, Bool.and_eq_true]
  exact .inr ⟨decide_eq_true h1, decide_eq_true h2⟩
theorem mulD_str {x : List Nat} {k : Int} (h : okRep x.length k = true) : mulD (.str x) (.int k) = M.ret (.str (repL x k.toNat)) := M.guard_of h
theorem mulD_lst {x : List D} {k : Int} (h : okRep x.length k = true) : mulD (.lst x) (.int k) = M.ret (.lst (repL x k.toNat)) := M.guard_of h
theorem negD_int (i : Int) : negD (.int i) = M.ret (.int (-i)) := rfl
theorem asI_int (i : Int) : asI (.int i) = M.ret (some i) := rfl
theorem asB_bl (b : Bool) : asB (.bl b) = M.ret b := rfl
theorem truD_bl (b : Bool) : truD (.bl b) = M.ret b := rfl
theorem slD_str {x : List Nat} {l h : Option Int} (hz : x.length ≤ 16777216) : slD l h (.str x) = M.ret (.str (cutL x l h)) := M.guard_of (decide_eq_true hz)
theorem slD_lst (x : List D) (l h : Option Int) : slD l h (.lst x) = M.ret (.lst (cutL x l h)) := rfl
theorem slD_scr (x : List Int) (l h : Option Int) : slD l h (.scr x) = M.ret (.lst (cutL (x.map D.int) l h)) := rfl
theorem revD_str {x : List Nat} (hz : x.length ≤ 16777216) : revD (.str x) = M.ret (.str x.reverse) := M.guard_of (decide_eq_true hz)
theorem revD_lst (x : List D) : revD (.lst x) = M.ret (.lst x.reverse) := rfl
theorem ltD_int (i j : Int) : ltD (.int i) (.int j) = M.ret (.bl (decide (i < j))) := rfl
theorem leD_int (i j : Int) : leD (.int i) (.int j) = M.ret (.bl (decide (i ≤ j))) := rfl
theorem gtD_int (i j : Int) : gtD (.int i) (.int j) = M.ret (.bl (decide (j < i))) := rfl
theorem geD_int (i j : Int) : geD (.int i) (.int j) = M.ret (.bl (decide (j ≤ i))) := rfl
theorem eqD_int (i j : Int) : eqD false (.int i) (.int j) = M.ret (.bl (decide (i = j))) := rfl
theorem eqD_str (i j : List Nat) : eqD false (.str i) (.str j) = M.ret (.bl (decide (i = j))) := rfl
theorem neD_int (i j : Int) : eqD true (.int i) (.int j) = M.ret (.bl (!decide (i = j))) := rfl
theorem neD_str (i j : List Nat) : eqD true (.str i) (.str j) = M.ret (.bl (!decide (i = j))) := rfl
theorem inD_str (c : Nat) (z : List Nat) : inD false (.str [c]) (.str z) = M.ret (.bl (decide (c ∈ z))) := rfl
theorem notInD_str (c : Nat) (z : List Nat) : inD true (.str [c]) (.str z) = M.ret (.bl (!decide (c ∈ z))) := rfl
/-- an item at a place from 0 on -/
theorem atI_lt {α : Type} {xs : List α} {i : Int} (h0 : 0 ≤ i) (h1 : i < xs.length) : atI xs i = xs[i.toNat]? := by
  have e : ((i.toNat : Nat) : Int) = i := by omega
  have hl : i.toNat < xs.length := by omega
  have h := atI_nat (xs := xs) (j := i.toNat) (v := xs[i.toNat]) (by simp [hl])
  rw [e] at h
  rw [h, List.getElem?_eq_getElem hl]
theorem ixD_str {x : List Nat} {i : Int} (hz : x.length ≤ 16777216) (h0 : 0 ≤ i) (h1 : i < x.length) : ixD (.str x) (.int i) = M.ret (.str [x.getD i.toNat 0]) := by
  have hl : i.toNat < x.length := by omega
  show M.guard (szS x.length) (M.of ((atI x i).map fun c => D.str [c])) = _
  rw [M.guard_of (show szS x.length = true from decide_eq_true hz), atI_lt h0 h1, List.getElem?_eq_getElem hl]
  simp [List.getD, List.getElem?_eq_getElem hl]
theorem ixD_lst {x : List D} {i : Int} {d : D} (h : atI x i = some d) : ixD (.lst x) (.int i) = M.ret d := by
  show M.of (atI x i) = _
  rw [h]; rfl
theorem ixD_tup {x : List D} {i : Int} {d : D} (h : atI x i = some d) : ixD (.tup x) (.int i) = M.ret d := by
  show M.of (atI x i) = _
  rw [h]; rfl
theorem rng1_int {j : Int} (h : -4611686018427387904 ≤ j) (h2 : j < 4611686018427387904) : rng1 [.int j] = M.ret ((List.range j.toNat).map fun k => .int (0 + (k : Nat))) := by
  refine M.guard_of ?_
  unfold okR
  rw [Bool.and_eq_true]
  exact ⟨decide_eq_true h, decide_eq_true h2⟩
theorem rng2_int {i j : Int} (h : -4611686018427387904 ≤ i) (h2 : i < 4611686018427387904) (h3 : -4611686018427387904 ≤ j) (h4 : j < 4611686018427387904) : rng2 [.int i, .int j] = M.ret ((List.range (j - i).toNat).map fun k => .int (i + (k : Nat))) := by
  refine M.guard_of ?_
  unfold okR
  rw [Bool.and_eq_true, Bool.and_eq_true, Bool.and_eq_true]
  exact ⟨⟨decide_eq_true h, decide_eq_true h2⟩, decide_eq_true h3, decide_eq_true h4⟩
theorem itemsD_lst (xs : List D) : itemsD (.lst xs) = M.ret xs := rfl
theorem itemsD_tup (xs : List D) : itemsD (.tup xs) = M.ret xs := rfl
theorem itemsD_str (x : List Nat) : itemsD (.str x) = M.ret (x.map fun c => .str [c]) := rfl
theorem szL_ok {xs : List D} (h : xs.length ≤ 16777216) {α : Type} {m : M α} : M.guard (szL xs) m = m := M.guard_of (decide_eq_true h)
theorem asTs_map (xs : List (List Nat)) : asTs (xs.map D.str) = some xs := by
  induction xs with
  | nil => rfl
  | cons x xs ih => show (match asTs (xs.map D.str) with | some l => some (x :: l) | none => none) = _; rw [ih]
theorem joinL_nil : ∀ xs : List (List Nat), TL.joinL [] xs = xs.flatten
  | [] => rfl
  | [x] => by simp [TL.joinL]
  | x :: y :: r => by
    show x ++ ([] ++ TL.joinL [] (y :: r)) = _
    rw [joinL_nil (y :: r)]; simp
theorem joinF_map {xs : List (List Nat)} (h : (xs.map List.length).sum ≤ 16777216) : joinF (.str []) (.lst (xs.map D.str)) = M.ret (.str xs.flatten) := by
  show (match asTs (xs.map D.str) with
    | some xs => M.guard (decide ((xs.map List.length).sum + xs.length * ([] : List Nat).length ≤ 16777216)) (M.ret (D.str (TL.joinL [] xs)))
    | none => M.fail) = _
  rw [asTs_map]
  show M.guard _ _ = _
  rw [M.guard_of (decide_eq_true (by simpa using h)), joinL_nil]
/-- texts of one sign each, joined -/
theorem joinF_one {α : Type} {xs : List α} {f : α → Nat} (h : xs.length ≤ 16777216) : joinF (.str []) (.lst (xs.map fun a => D.str [f a])) = M.ret (.str (xs.map f)) := by
  have e : (xs.map fun a => D.str [f a]) = (xs.map fun a => [f a]).map D.str := by simp
  rw [e, joinF_map]
  · congr 2
    induction xs with
    | nil => rfl
    | cons a r ih => simp [ih (Nat.le_trans (Nat.le_succ _) h)]
  · have : ∀ ys : List α, ((ys.map fun a => [f a]).map List.length).sum = ys.length := by
      intro ys
      induction ys with
      | nil => rfl
      | cons a r ih => rw [List.map_cons, List.map_cons, List.sum_cons, ih]; simp; omega
    rw [this xs]; exact h
/-! ### comprehensions -/
theorem compM_map {bs : D → Option (List (Nat × D))} {c : Env → M Bool} {e : Env → M D} {ρ : Env} {l : D → List (Nat × D)} {y : D → D} : ∀ {xs : List D}, (∀ x ∈ xs, bs x = some (l x) ∧ c (setAllD ρ (l x)) = M.ret true ∧ e (setAllD ρ (l x)) = M.ret (y x)) → compM bs c e ρ xs = M.ret (xs.map y)
  | [], _ => rfl
  | x :: xs, h => by
    obtain ⟨h1, h2, h3⟩ := h x (by simp)
    unfold compM
    rw [h1]
    show M.bind _ _ = _
    rw [h2, M.ret_bind, if_pos rfl, h3, M.ret_bind, compM_map (xs := xs) fun x hx => h x (by simp [hx])]
    rfl
theorem compM_filter {bs : D → Option (List (Nat × D))} {c : Env → M Bool} {e : Env → M D} {ρ : Env} {l : D → List (Nat × D)} {k : D → Bool} {y : D → D} : ∀ {xs : List D}, (∀ x ∈ xs, bs x = some (l x) ∧ c (setAllD ρ (l x)) = M.ret (k x) ∧ e (setAllD ρ (l x)) = M.ret (y x)) → compM bs c e ρ xs = M.ret ((xs.filter k).map y)
  | [], _ => rfl
  | x :: xs, h => by
    obtain ⟨h1, h2, h3⟩ := h x (by simp)
    unfold compM
    rw [h1]
    show M.bind _ _ = _
    have ih := compM_filter (xs := xs) (fun x hx => h x (by simp [hx]))
    rw [h2, M.ret_bind]
    cases hk : k x with
    | true => rw [if_pos rfl, h3, M.ret_bind, ih, List.filter_cons_of_pos hk]; rfl
    | false => rw [if_neg Bool.false_ne_true, ih, List.filter_cons_of_neg (by simp [hk])]
theorem compM_mapI {α : Type} {bs : D → Option (List (Nat × D))} {c : Env → M Bool} {e : Env → M D} {ρ : Env} {inj : α → D} {l : α → List (Nat × D)} {y : α → D} : ∀ {xs : List α}, (∀ a ∈ xs, bs (inj a) = some (l a) ∧ c (setAllD ρ (l a)) = M.ret true ∧ e (setAllD ρ (l a)) = M.ret (y a)) → compM bs c e ρ (xs.map inj) = M.ret (xs.map y)
  | [], _ => rfl
  | x :: xs, h => by
    obtain ⟨h1, h2, h3⟩ := h x (by simp)
    rw [List.map_cons]
    unfold compM
    rw [h1]
    show M.bind _ _ = _
    rw [h2, M.ret_bind, if_pos rfl, h3, M.ret_bind, compM_mapI (xs := xs) fun x hx => h x (by simp [hx])]
    rfl
theorem compM_filterI {α : Type} {bs : D → Option (List (Nat × D))} {c : Env → M Bool} {e : Env → M D} {ρ : Env} {inj : α → D} {l : α → List (Nat × D)} {k : α → Bool} {y : α → D} : ∀ {xs : List α}, (∀ a ∈ xs, bs (inj a) = some (l a) ∧ c (setAllD ρ (l a)) = M.ret (k a) ∧ e (setAllD ρ (l a)) = M.ret (y a)) → compM bs c e ρ (xs.map inj) = M.ret ((xs.filter k).map y)
  | [], _ => rfl
  | x :: xs, h => by
    obtain ⟨h1, h2, h3⟩ := h x (by simp)
    rw [List.map_cons]
    unfold compM
    rw [h1]
    show M.bind _ _ = _
    have ih := compM_filterI (xs := xs) (fun x hx => h x (by simp [hx]))
    rw [h2, M.ret_bind]
    cases hk : k x with
    | true => rw [if_pos rfl, h3, M.ret_bind, ih, List.filter_cons_of_pos hk]; rfl
    | false => rw [if_neg Bool.false_ne_true, ih, List.filter_cons_of_neg (by simp [hk])]
theorem cut_all {α : Type} (xs : List α) {k : Int} (h : (xs.length : Int) ≤ k) : cutL xs none (some k) = xs := by
  unfold cutL
  have e : HT.sIx xs.length xs.length (some k) = xs.length := by
    show (if k < 0 then _ else min k.toNat xs.length) = _
    rw [if_neg (by omega)]; omega
  rw [e]
  simp [HT.sIx]
theorem cut_to {α : Type} (xs : List α) {k : Int} (h : 0 ≤ k) : cutL xs none (some k) = xs.take k.toNat := by
  unfold cutL
  have e : HT.sIx xs.length xs.length (some k) = min k.toNat xs.length := by
    show (if k < 0 then _ else min k.toNat xs.length) = _
    rw [if_neg (by omega)]
  rw [e]
  have e0 : HT.sIx xs.length 0 none = 0 := rfl
  rw [e0, List.drop_zero, Nat.sub_zero, ← List.take_take, List.take_length]
theorem cut_from {α : Type} (xs : List α) {k : Int} (h : 0 ≤ k) : cutL xs (some k) none = xs.drop k.toNat := by
  unfold cutL
  have e : HT.sIx xs.length 0 (some k) = min k.toNat xs.length := by
    show (if k < 0 then _ else min k.toNat xs.length) = _
    rw [if_neg (by omega)]
  have e1 : HT.sIx xs.length xs.length none = xs.length := rfl
  rw [e, e1, List.take_of_length_le (by simp)]
  by_cases hk : k.toNat ≤ xs.length
  · rw [Nat.min_eq_left hk]
  · rw [Nat.min_eq_right (by omega), List.drop_of_length_le (Nat.le_refl _), List.drop_of_length_le (by omega)]
theorem compM_tot {p : Addr} {bs : D → Option (List (Nat × D))} {c : Env → M Bool} {e : Env → M D} {ρ : Env} {P : D → Prop} : ∀ {xs : List D}, (∀ x ∈ xs, ∃ l, bs x = some l ∧ c (setAllD ρ l) = M.ret true ∧ Tot p (e (setAllD ρ l)) P) → Tot p (compM bs c e ρ xs) fun ys => ys.length = xs.length ∧ ∀ y ∈ ys, P y
  | [], _ => Tot.ret ⟨rfl, fun _ h => nomatch h⟩
  | x :: xs, h => by
    obtain ⟨l, h1, h2, h3⟩ := h x (by simp)
    unfold compM
    rw [h1]
    show Tot p (M.bind _ _) _
    rw [h2, M.ret_bind, if_pos rfl]
    refine h3.bind fun y hy => (compM_tot (xs := xs) fun x hx => h x (by simp [hx])).bind fun ys hys => Tot.ret ⟨by simp [hys.1], fun z hz => ?_⟩
    rcases List.mem_cons.mp hz with rfl | hz
    · exact hy
    · exact hys.2 z hz
/-! ### statements, whatever the bag draws -/
theorem Tot.of_ret {α : Type} {p : Addr} {m : M α} {a : α} (h : m = M.ret a) {P : α → Prop} (hp : P a) : Tot p m P := by rw [h]; exact Tot.ret hp
def NxP (A : Env2 → Prop) (o : Out) : Prop := ∃ ρ, o = .nx ρ ∧ A ρ
theorem tot_seq {p : Addr} {F F2 : Env2 → M Out} {ρ : Env2} {A : Env2 → Prop} {Q : Out → Prop} (h : Tot p (F ρ) (NxP A)) (h2 : ∀ ρ', A ρ' → Tot p (F2 ρ') Q) : Tot p (seqM F F2 ρ) Q := by
  refine Tot.bind h fun o ho => ?_
  obtain ⟨ρ', rfl, ha⟩ := ho
  exact h2 ρ' ha
theorem tot_set {p : Addr} {i : Nat} {ms : List Nat} {f : Env → M D} {F2 : Env2 → M Out} {ρ : Env2} {P : D → Prop} {Q : Out → Prop} (h : Tot p (f (view ms ρ)) P) (h2 : ∀ d, P d → Tot p (F2 ((keepIf d.flat ms ρ).set i (some (.val d)))) Q) : Tot p (seqM (setM i ms f) F2 ρ) Q := by
  show Tot p (M.bind (M.bind _ _) _) _
  rw [M.bind_assoc]
  exact h.bind fun d hd => h2 d hd
theorem tot_setN {p : Addr} {i : Nat} {ms : List Nat} {f : Env → M (List D)} {F2 : Env2 → M Out} {ρ : Env2} {P : List D → Prop} {Q : Out → Prop} (h : Tot p (f (view ms ρ)) P) (h2 : ∀ d, P d → Tot p (F2 ((keepIf (d.all D.flat) ms ρ).set i (some (.own d)))) Q) : Tot p (seqM (setNM i ms f) F2 ρ) Q := by
  show Tot p (M.bind (M.bind _ _) _) _
  rw [M.bind_assoc]
  exact h.bind fun d hd => h2 d hd
theorem tot_ifN {p : Addr} {ms : List Nat} {t : Env → M Bool} {F1 F0 F2 : Env2 → M Out} {ρ : Env2} {Q : Out → Prop} (h : Tot p (t (view ms ρ)) (· = false)) (h2 : Tot p (seqM F0 F2 ρ) Q) : Tot p (seqM (ifM ms t F1 F0) F2 ρ) Q := by
  show Tot p (M.bind (M.bind _ _) _) _
  rw [M.bind_assoc]
  refine h.bind fun k hk => ?_
  subst hk
  exact h2
theorem tot_if {p : Addr} {ms : List Nat} {t : Env → M Bool} {F1 F0 F2 : Env2 → M Out} {ρ : Env2} {Q : Out → Prop} (h : Tot p (t (view ms ρ)) fun _ => True) (h1 : Tot p (seqM F1 F2 ρ) Q) (h2 : Tot p (seqM F0 F2 ρ) Q) : Tot p (seqM (ifM ms t F1 F0) F2 ρ) Q := by
  show Tot p (M.bind (M.bind _ _) _) _
  rw [M.bind_assoc]
  refine h.bind fun k _ => ?_
  cases k with
  | true => exact h1
  | false => exact h2
theorem tot_loop {p : Addr} {bs : D → Option (List (Nat × D))} {body : Env2 → M Out} {I : Env2 → Prop} : ∀ {xs : List D} {ρ : Env2}, (∀ x ∈ xs, ∀ ρ, I ρ → ∃ l, bs x = some l ∧ Tot p (body (setAll2 ρ l)) (NxP I)) → I ρ → Tot p (loopM bs body xs ρ) (NxP I)
  | [], ρ, _, hi => Tot.ret ⟨ρ, rfl, hi⟩
  | x :: xs, ρ, h, hi => by
    obtain ⟨l, h1, h2⟩ := h x (by simp) ρ hi
    unfold loopM
    rw [h1]
    refine h2.bind fun o ho => ?_
    obtain ⟨ρ', rfl, hi'⟩ := ho
    exact tot_loop (xs := xs) (fun x hx => h x (by simp [hx])) hi'
theorem tot_forR {p : Addr} {ms : List Nat} {gi : Env → M (List D)} {bs : D → Option (List (Nat × D))} {body : Env2 → M Out} {ρ : Env2} {I : Env2 → Prop} {xs : List D} (hx : gi (view ms ρ) = M.ret xs) (h : ∀ x ∈ xs, ∀ ρ, I ρ → ∃ l, bs x = some l ∧ Tot p (body (setAll2 ρ l)) (NxP I)) (hi : I ρ) : Tot p (forRM ms gi bs body ρ) (NxP I) := by
  show Tot p (M.bind _ _) _
  rw [hx]
  exact tot_loop h hi
theorem tot_for {p : Addr} {ms : List Nat} {gi : Env → M (List D)} {bs : D → Option (List (Nat × D))} {body : Env2 → M Out} {ρ : Env2} {I : Env2 → Prop} {P : List D → Prop} (hx : Tot p (gi (view ms ρ)) P) (h : ∀ xs, P xs → ∀ x ∈ xs, ∀ ρ, I ρ → ∃ l, bs x = some l ∧ Tot p (body (setAll2 ρ l)) (NxP I)) (hi : I (frz ms ρ)) : Tot p (forM ms gi bs body ρ) (NxP I) :=
  hx.bind fun xs hp => tot_loop (h xs hp) hi
theorem tot_nx {p : Addr} {ρ : Env2} {A : Env2 → Prop} (h : A ρ) : Tot p (sNil ρ) (NxP A) := Tot.ret ⟨ρ, rfl, h⟩
theorem tot_skip {p : Addr} {F2 : Env2 → M Out} {ρ : Env2} {Q : Out → Prop} (h : Tot p (F2 ρ) Q) : Tot p (seqM sNil F2 ρ) Q := h
theorem tot_app {p : Addr} {j : Nat} {ms : List Nat} {f : Env → M D} {ρ : Env2} {xs : List D} {d : D} {A : Env2 → Prop} (h : f (view ms ρ) = M.ret d) (hj : (keepIf d.flat ms ρ)[j]? = some (some (.own xs))) (hl : xs.length < 16777216) (ha : A ((keepIf d.flat ms ρ).set j (some (.own (xs ++ [d]))))) : Tot p (appM j ms f ρ) (NxP A) := by
  refine Tot.of_ret (a := .nx ((keepIf d.flat ms ρ).set j (some (.own (xs ++ [d]))))) ?_ ⟨_, rfl, ha⟩
  show M.bind _ _ = _
  rw [h, M.ret_bind, hj]
  exact M.guard_of (decide_eq_true hl)
theorem tot_unp {p : Addr} {bs : D → Option (List (Nat × D))} {ms : List Nat} {f : Env → M D} {F2 : Env2 → M Out} {ρ : Env2} {P : D → Prop} {Q : Out → Prop} (h : Tot p (f (view ms ρ)) P) (h2 : ∀ d, P d → ∃ l, bs d = some l ∧ Tot p (F2 (setAll2 (keepIf d.flat ms ρ) l)) Q) : Tot p (seqM (unpM bs ms f) F2 ρ) Q := by
  show Tot p (M.bind (M.bind _ _) _) _
  rw [M.bind_assoc]
  refine h.bind fun d hd => ?_
  obtain ⟨l, h3, h4⟩ := h2 d hd
  rw [h3]
  exact h4
theorem tot_ifL {p : Addr} {ms : List Nat} {t : Env → M Bool} {F1 F0 : Env2 → M Out} {ρ : Env2} {Q : Out → Prop} (h : Tot p (t (view ms ρ)) (· = false)) (h2 : Tot p (F0 ρ) Q) : Tot p (ifM ms t F1 F0 ρ) Q := by
  refine h.bind fun k hk => ?_
  subst hk
  exact h2
theorem tot_ret {p : Addr} {ms : List Nat} {f : Env → M D} {ρ : Env2} {d : D} (h : Tot p (f (view ms ρ)) (· = d)) : Tot p (retM ms f ρ) (· = .rt d) := h.bind fun x hx => Tot.ret (by rw [hx])
end DL
set_option Elab.async false
set_option maxRecDepth 100000
set_option autoImplicit false
set_option linter.unusedVariables false
set_option maxHeartbeats 4000000
namespace LW
open PySem L2 PySem.Spec PyProof.Rows DL
def top (i : Nat) : Stmt := PySem.Challenge.pw_standwaves_k21_places_and_windows.main.body.getD i (.Pass ⟨0, 0, 0, 0⟩)
abbrev s__law_bag : Stmt := top 5
abbrev s__law_take : Stmt := top 6
abbrev s__law_pick : Stmt := top 8
abbrev s__law_text : Stmt := top 9
abbrev s__law_turned : Stmt := top 10
abbrev s_turned_by : Stmt := top 1
abbrev s_turns_between : Stmt := top 2
abbrev s__law_alike : Stmt := top 7
abbrev s_window_at : Stmt := top 3
abbrev s_law : Stmt := top 11
structure Ads where
  a__law_bag : Addr
  d__law_bag : FuncData
  a__law_take : Addr
  d__law_take : FuncData
  a__law_pick : Addr
  d__law_pick : FuncData
  a__law_text : Addr
  d__law_text : FuncData
  a__law_turned : Addr
  d__law_turned : FuncData
  a_turned_by : Addr
  d_turned_by : FuncData
  a_turns_between : Addr
  d_turns_between : FuncData
  a__law_alike : Addr
  d__law_alike : FuncData
  a_window_at : Addr
  d_window_at : FuncData
  a_law : Addr
  d_law : FuncData
structure Txt (K : PySem.W.Frag) (mg : Str → Option Value) (FA : Ads) : Prop where
  _law_bag : FnAt K mg "_law_bag" s__law_bag ["_law_script"] FA.a__law_bag FA.d__law_bag
  _law_take : FnAt K mg "_law_take" s__law_take ["_law_bag_here", "_law_many"] FA.a__law_take FA.d__law_take
  _law_pick : FnAt K mg "_law_pick" s__law_pick ["_law_bag_here", "_law_things"] FA.a__law_pick FA.d__law_pick
  _law_text : FnAt K mg "_law_text" s__law_text ["_law_bag_here", "_law_rests", "_law_most"] FA.a__law_text FA.d__law_text
  _law_turned : FnAt K mg "_law_turned" s__law_turned ["_law_text_here", "_law_places"] FA.a__law_turned FA.d__law_turned
  turned_by : FnAt K mg "turned_by" s_turned_by ["text", "places"] FA.a_turned_by FA.d_turned_by
  turns_between : FnAt K mg "turns_between" s_turns_between ["text", "other"] FA.a_turns_between FA.d_turns_between
  _law_alike : FnAt K mg "_law_alike" s__law_alike ["_law_found", "_law_due"] FA.a__law_alike FA.d__law_alike
  window_at : FnAt K mg "window_at" s_window_at ["text", "seat", "reach"] FA.a_window_at FA.d_window_at
  law : FnAt K mg "law" s_law ["_law_script"] FA.a_law FA.d_law
  b_abs : mg "abs" = none
  b_int : mg "int" = none
  b_len : mg "len" = none
  b_range : mg "range" = none
  b_repr : mg "repr" = none
section
variable {P : Program} {w : World} {K : PySem.W.Frag} {mg : Str → Option Value} {base : Heap} {FA : Ads}
theorem repr_room {A : Around} {k : Nat} (hr : Room k A) : A.units + 70 < cLine := by have := hr.un; omega
/-! _law_bag -/
def F__law_bag : Env2 → M Out :=
  (retNM [0, 1] (nLst (aC (cst (.int 0)) (aC (cst (.int 1234567891)) (aC (cst (.int 0)) (aC (eN (nLc [1] (iAny (eSl (rdEnv 0) oN (oS (cst (.int 63))))) (bName 1) cT (eCall absF (aC (rdEnv 1) aN)))) aN))))))
def R__law_bag : List D → M (List D) := runN 2 F__law_bag
theorem sc__law_bag : FnScope ["_law_script", "_law_cell"] ["_law_script"] (defScope s__law_bag) := ⟨rfl, rfl, rfl, by decide +kernel, rfl, by decide +kernel, by decide +kernel⟩
theorem ok__law_bag (T : Txt K mg FA) : FnOk P w K mg base CX0 1 FA.a__law_bag FA.d__law_bag ["_law_script"] (spN K 1 R__law_bag) :=
  fnN T._law_bag.fn sc__law_bag fun cdv A outer s H E hr =>
  (ss_one (s_retN [0, 1] (dn_lst (da_cons d_int (da_cons d_int (da_cons d_int (da_cons (d_n (dn_lc (own := [("_law_cell", 1)]) rfl sc__law_bag.nd (di_any (d_slice (dv 0) do_none (do_some d_int))) (blkOk_by (N := ["_law_script", "_law_cell"]) (sc := defScope s__law_bag) (by decide +kernel)) (tg_name 1) (by decide) (fun _ _ _ _ _ => (pg_name (i := 1) sc__law_bag.nd rfl (by first | exact Or.inl rfl | exact Or.inr rfl))) (fun _ _ _ _ _ => dts_nil) (fun _ _ _ _ _ => (d_abs rfl T.b_abs (da_cons (dv 1) da_nil))))) da_nil)))))))
local macro_rules | `(tactic| walk_at "ev") => `(tactic| simp -implicitDefEqProofs only [DL.runD, DL.runN, DL.startD, seqM, setM, setNM, retM, retNM, dropM, ifM, unpM, List.map_cons, List.map_nil, List.length_cons, List.length_nil, Nat.reduceAdd, Nat.reduceSub, List.replicate, List.cons_append, List.nil_append, view_eq, viewAt_cons, viewAt_nil, List.contains_cons, List.contains_nil, Nat.reduceBEq, Bool.or_true, Bool.or_false, Bool.true_or, if_true, Bool.false_eq_true, if_false, Option.map_some, Option.map_none, see_val, see_own, e2, t2, e1, cst, aN, aC, eCall, nCall, eN, nLst, eTup, tVal, tNotM, eAnd, eNot, eIf, iAny, DL.iRng1, DL.iRng2, nLc, oN, oS, eSl, sNil, rd_0, rd_1, rd_2, rd_3, rd_4, rd_5, rd_6, rd_7, rd_8, rd_9, rd_10, rd_11, rd_12, rd_13, rd_14, rd_15, rd_16, rd_17, rd_18, M.ret_bind, M.bind_assoc, flat_int, flat_str, flat_bl, flat_non, flat_bag, flat_lst, flat_tup, keepIf_t, keepIf_f, frz_eq, frzAt_cons, frzAt_nil, List.set_cons_succ, List.set_cons_zero, subD_int, addD_int, negD_int, asI_int, asB_bl, truD_bl, lenF_lst, lenF_tup, intF_int, intF_bl, absF_int, ltD_int, leD_int, gtD_int, geD_int, eqD_int, eqD_str, neD_int, neD_str, inD_str, notInD_str, slD_lst, slD_scr, revD_lst, itemsD_lst, itemsD_tup, itemsD_str, Bool.not_true, Bool.not_false])
local macro_rules | `(tactic| walk_at "evs") => `(tactic| simp -implicitDefEqProofs only [DL.runD, DL.runN, DL.startD, seqM, setM, setNM, retM, retNM, dropM, ifM, unpM, List.map_cons, List.map_nil, List.length_cons, List.length_nil, Nat.reduceAdd, Nat.reduceSub, List.replicate, List.cons_append, List.nil_append, view_eq, viewAt_cons, viewAt_nil, List.contains_cons, List.contains_nil, Nat.reduceBEq, Bool.or_true, Bool.or_false, Bool.true_or, if_true, Bool.false_eq_true, if_false, Option.map_some, Option.map_none, see_val, see_own, e2, t2, e1, cst, aN, aC, eCall, nCall, eN, nLst, eTup, tVal, tNotM, eAnd, eNot, eIf, iAny, DL.iRng1, DL.iRng2, nLc, oN, oS, eSl, sNil, rd_0, rd_1, rd_2, rd_3, rd_4, rd_5, rd_6, rd_7, rd_8, rd_9, rd_10, rd_11, rd_12, rd_13, rd_14, rd_15, rd_16, rd_17, rd_18, M.ret_bind, M.bind_assoc, flat_int, flat_str, flat_bl, flat_non, flat_bag, flat_lst, flat_tup, keepIf_t, keepIf_f, frz_eq, frzAt_cons, frzAt_nil, List.set_cons_succ, List.set_cons_zero, subD_int, addD_int, negD_int, asI_int, asB_bl, truD_bl, lenF_lst, lenF_tup, intF_int, intF_bl, absF_int, ltD_int, leD_int, gtD_int, geD_int, eqD_int, eqD_str, neD_int, neD_str, inD_str, notInD_str, slD_lst, slD_scr, revD_lst, itemsD_lst, itemsD_tup, itemsD_str, Bool.not_true, Bool.not_false, lenF_str, slD_str, modD_int, revD_str, *])
local macro_rules | `(tactic| walk_at "env") => `(tactic| simp -implicitDefEqProofs only [List.all_cons, List.all_nil, Bool.and_true, Bool.true_and, setAll2, bName, env0, List.replicate, flat_int, flat_str, flat_bl, flat_non, flat_bag, flat_lst, flat_tup, keepIf_t, keepIf_f, frz_eq, frzAt_cons, frzAt_nil, List.contains_cons, List.contains_nil, Nat.reduceBEq, Nat.reduceAdd, Bool.or_true, Bool.or_false, Bool.true_or, if_true, Bool.false_eq_true, if_false, Option.map_some, Option.map_none, see_val, see_own, List.set_cons_succ, List.set_cons_zero])
theorem bag_made (ns : List Int) (h : ns.length ≤ 63) : ∃ cs : List Int, R__law_bag [.scr ns] none = some ([.int 0, .int 1234567891, .int 0, .lst (cs.map D.int)], none) := by
  refine ⟨ns.map fun n => if n < 0 then -n else n, ?_⟩
  simp only [R__law_bag, F__law_bag]
  walk_at "ev"
  rw [cut_all _ (by simp; omega), compM_mapI (l := fun a => [(1, D.int a)]) (y := fun n => D.int (if n < 0 then -n else n)) (fun a _ => ⟨rfl, rfl, rfl⟩)]
  walk_at "ev"
  rw [szL_ok (by simp; omega)]
  walk_at "ev"
  rw [szL_ok (by simp)]
  simp only [List.map_map]
  rfl
/-! _law_take -/
def F__law_take : Env2 → M Out :=
  (seqM (ifM [0] (t2 (eqD false) (e2 ixD (rdEnv 0) (cst (.int 0))) (cst (.int 0)))
  (seqM (setM 4 [] (cst (.int 0)))
  (seqM (ifM [0] (t2 ltD (e2 ixD (rdEnv 0) (cst (.int 2))) (eCall lenF (aC (e2 ixD (rdEnv 0) (cst (.int 3))) aN)))
  (setM 4 [0] (e2 ixD (e2 ixD (rdEnv 0) (cst (.int 3))) (e2 ixD (rdEnv 0) (cst (.int 2)))))
  sNil)
  (seqM (bagAugM 0 2 [] (cst (.int 1)))
  (seqM (ifM [4] (t2 geD (rdEnv 4) (cst (.int 1000000000000000000)))
  (bagSetM 0 0 [4] (rdEnv 4))
  sNil)
  (seqM (setM 5 [0, 4] (e2 addD (e2 addD (e2 mulD (e2 ixD (rdEnv 0) (cst (.int 1))) (cst (.int 48271))) (e2 modD (eCall intF (aC (rdEnv 4) aN)) (cst (.int 2147483647)))) (e2 mulD (cst (.int 7919)) (e2 ixD (rdEnv 0) (cst (.int 2))))))
  (bagSetM 0 1 [5] (e2 modD (eCall intF (aC (rdEnv 5) aN)) (cst (.int 2147483647)))))))))
  sNil)
  (seqM (ifM [0] (t2 gtD (e2 ixD (rdEnv 0) (cst (.int 0))) (cst (.int 0)))
  (seqM (setM 6 [0, 1] (e2 modD (eCall intF (aC (e2 ixD (rdEnv 0) (cst (.int 0))) aN)) (rdEnv 1)))
  (seqM (bagSetM 0 0 [0, 1] (e2 divD (e2 ixD (rdEnv 0) (cst (.int 0))) (rdEnv 1)))
  (retM [6] (rdEnv 6))))
  sNil)
  (seqM (setM 2 [0] (e2 modD (eCall intF (aC (e2 mulD (e2 addD (e2 ixD (rdEnv 0) (cst (.int 1))) (cst (.int 1))) (cst (.int 39373))) aN)) (cst (.int 1000000007))))
  (seqM (setM 3 [2] (e2 modD (eCall intF (aC (e2 mulD (e2 modD (eCall intF (aC (e2 mulD (rdEnv 2) (rdEnv 2)) aN)) (cst (.int 998244353))) (cst (.int 30011))) aN)) (cst (.int 998244353))))
  (seqM (ifM [1] (t2 gtD (rdEnv 1) (cst (.int 1000000)))
  (retM [1, 2, 3] (e2 modD (eCall intF (aC (e2 addD (e2 mulD (rdEnv 3) (cst (.int 1000000007))) (rdEnv 2)) aN)) (rdEnv 1)))
  sNil)
  (retM [1, 3] (e2 modD (eCall intF (aC (e2 divD (rdEnv 3) (cst (.int 7))) aN)) (rdEnv 1))))))))
def R__law_take : List D → M D := runD 7 F__law_take
theorem sc__law_take : FnScope ["_law_bag_here", "_law_many", "_law_begin", "_law_second", "_law_cell", "_law_mixed", "_law_value"] ["_law_bag_here", "_law_many"] (defScope s__law_take) := ⟨rfl, rfl, rfl, by decide +kernel, rfl, by decide +kernel, by decide +kernel⟩
theorem ok__law_take (T : Txt K mg FA) : FnOk P w K mg base CX0 1 FA.a__law_take FA.d__law_take ["_law_bag_here", "_law_many"] (spD K 2 R__law_take) :=
  fnD T._law_take.fn sc__law_take fun cdv A outer s H E hr =>
  (ss_cons (s_if [0] (t_eq hr.units (d_ix (dv 0) d_int) d_int)
  (ss_cons (s_set 4 [] sc__law_take.nd rfl (by first | exact Or.inl rfl | exact Or.inr rfl) d_int)
  (ss_cons (s_if [0] (t_lt (d_ix (dv 0) d_int) (d_len rfl T.b_len (da_cons (d_ix (dv 0) d_int) da_nil)))
  (ss_one (s_set 4 [0] sc__law_take.nd rfl (by first | exact Or.inl rfl | exact Or.inr rfl) (d_ix (d_ix (dv 0) d_int) (d_ix (dv 0) d_int))))
  ss_nil)
  (ss_cons (s_bagaug 0 [] (by decide))
  (ss_cons (s_if [4] (t_ge (dv 4) d_int)
  (ss_one (s_bagset 0 [4] (dv 4)))
  ss_nil)
  (ss_cons (s_set 5 [0, 4] sc__law_take.nd rfl (by first | exact Or.inl rfl | exact Or.inr rfl) (d_add (d_add (d_mul (d_ix (dv 0) d_int) d_int) (d_mod (d_cint rfl T.b_int (da_cons (dv 4) da_nil)) d_int)) (d_mul d_int (d_ix (dv 0) d_int))))
  (ss_one (s_bagset 0 [5] (d_mod (d_cint rfl T.b_int (da_cons (dv 5) da_nil)) d_int))))))))
  ss_nil)
  (ss_cons (s_if [0] (t_gt (d_ix (dv 0) d_int) d_int)
  (ss_cons (s_set 6 [0, 1] sc__law_take.nd rfl (by first | exact Or.inl rfl | exact Or.inr rfl) (d_mod (d_cint rfl T.b_int (da_cons (d_ix (dv 0) d_int) da_nil)) (dv 1)))
  (ss_cons (s_bagset 0 [0, 1] (d_div (d_ix (dv 0) d_int) (dv 1)))
  (ss_one (s_ret [6] (dv 6)))))
  ss_nil)
  (ss_cons (s_set 2 [0] sc__law_take.nd rfl (by first | exact Or.inl rfl | exact Or.inr rfl) (d_mod (d_cint rfl T.b_int (da_cons (d_mul (d_add (d_ix (dv 0) d_int) d_int) d_int) da_nil)) d_int))
  (ss_cons (s_set 3 [2] sc__law_take.nd rfl (by first | exact Or.inl rfl | exact Or.inr rfl) (d_mod (d_cint rfl T.b_int (da_cons (d_mul (d_mod (d_cint rfl T.b_int (da_cons (d_mul (dv 2) (dv 2)) da_nil)) d_int) d_int) da_nil)) d_int))
  (ss_cons (s_if [1] (t_gt (dv 1) d_int)
  (ss_one (s_ret [1, 2, 3] (d_mod (d_cint rfl T.b_int (da_cons (d_add (d_mul (dv 3) d_int) (dv 2)) da_nil)) (dv 1))))
  ss_nil)
  (ss_one (s_ret [1, 3] (d_mod (d_cint rfl T.b_int (da_cons (d_div (dv 3) d_int) da_nil)) (dv 1)))))))))
/-! _law_pick -/
def F__law_pick : Env2 → M Out :=
  (retM [0, 1] (e2 ixD (rdEnv 1) (eCall R__law_take (aC (rdEnv 0) (aC (eCall lenF (aC (rdEnv 1) aN)) aN)))))
def R__law_pick : List D → M D := runD 2 F__law_pick
theorem sc__law_pick : FnScope ["_law_bag_here", "_law_things"] ["_law_bag_here", "_law_things"] (defScope s__law_pick) := ⟨rfl, rfl, rfl, by decide +kernel, rfl, by decide +kernel, by decide +kernel⟩
theorem ok__law_pick (T : Txt K mg FA) : FnOk P w K mg base CX0 2 FA.a__law_pick FA.d__law_pick ["_law_bag_here", "_law_things"] (spD K 2 R__law_pick) :=
  fnD T._law_pick.fn sc__law_pick fun cdv A outer s H E hr =>
  (ss_one (s_ret [0, 1] (d_ix (dv 1) (d_call (ok__law_take T) (hr.mono (by decide)) rfl T._law_take.gl T._law_take.fn.kp T._law_take.bd (da_cons (dv 0) (da_cons (d_len rfl T.b_len (da_cons (dv 1) da_nil)) da_nil)) (ar_cons (ar_cons ar_nil))))))
/-! _law_text -/
def F__law_text : Env2 → M Out :=
  (seqM (setM 3 [1] (eSl (cst (.str [48, 49, 50, 51])) oN (oS (e2 addD (rdEnv 1) (cst (.int 2))))))
  (retM [0, 2, 3] (e2 joinF (cst (.str [])) (eN (nLc [4] (DL.iRng1 (aC (e2 addD (cst (.int 1)) (eCall R__law_take (aC (rdEnv 0) (aC (rdEnv 2) aN)))) aN)) (bName 4) cT (e2 ixD (rdEnv 3) (eCall R__law_take (aC (rdEnv 0) (aC (eCall lenF (aC (rdEnv 3) aN)) aN)))))))))
def R__law_text : List D → M D := runD 5 F__law_text
theorem sc__law_text : FnScope ["_law_bag_here", "_law_rests", "_law_most", "_law_signs", "_law_k"] ["_law_bag_here", "_law_rests", "_law_most"] (defScope s__law_text) := ⟨rfl, rfl, rfl, by decide +kernel, rfl, by decide +kernel, by decide +kernel⟩
theorem ok__law_text (T : Txt K mg FA) : FnOk P w K mg base CX0 2 FA.a__law_text FA.d__law_text ["_law_bag_here", "_law_rests", "_law_most"] (spD K 3 R__law_text) :=
  fnD T._law_text.fn sc__law_text fun cdv A outer s H E hr =>
  (ss_cons (s_set 3 [1] sc__law_text.nd rfl (by first | exact Or.inl rfl | exact Or.inr rfl) (d_slice (d_str [48, 49, 50, 51]) do_none (do_some (d_add (dv 1) d_int))))
  (ss_one (s_ret [0, 2, 3] (d_join (d_str []) (d_n (dn_lc (own := [("_law_k", 4)]) rfl sc__law_text.nd (di_r (dr_range1 rfl T.b_range (da_cons (d_add d_int (d_call (ok__law_take T) (hr.mono (by decide)) rfl T._law_take.gl T._law_take.fn.kp T._law_take.bd (da_cons (dv 0) (da_cons (dv 2) da_nil)) (ar_cons (ar_cons ar_nil)))) da_nil))) (blkOk_by (N := ["_law_bag_here", "_law_rests", "_law_most", "_law_signs", "_law_k"]) (sc := defScope s__law_text) (by decide +kernel)) (tg_name 4) (by decide) (fun _ _ _ _ _ => (pg_name (i := 4) sc__law_text.nd rfl (by first | exact Or.inl rfl | exact Or.inr rfl))) (fun _ _ _ _ _ => dts_nil) (fun _ _ _ _ _ => (d_ix (dv 3) (d_call (ok__law_take T) (hr.mono (by decide)) rfl T._law_take.gl T._law_take.fn.kp T._law_take.bd (da_cons (dv 0) (da_cons (d_len rfl T.b_len (da_cons (dv 3) da_nil)) da_nil)) (ar_cons (ar_cons ar_nil)))))))))))
/-! _law_turned -/
def F__law_turned : Env2 → M Out :=
  (retM [0, 1, 2] (e2 joinF (cst (.str [])) (eN (nLc [2] (DL.iRng1 (aC (eCall lenF (aC (rdEnv 0) aN)) aN)) (bName 2) cT (e2 ixD (rdEnv 0) (e2 modD (eCall intF (aC (e2 subD (rdEnv 2) (rdEnv 1)) aN)) (eCall lenF (aC (rdEnv 0) aN))))))))
def R__law_turned : List D → M D := runD 3 F__law_turned
theorem sc__law_turned : FnScope ["_law_text_here", "_law_places", "_law_k"] ["_law_text_here", "_law_places"] (defScope s__law_turned) := ⟨rfl, rfl, rfl, by decide +kernel, rfl, by decide +kernel, by decide +kernel⟩
theorem ok__law_turned (T : Txt K mg FA) : FnOk P w K mg base CX0 1 FA.a__law_turned FA.d__law_turned ["_law_text_here", "_law_places"] (spD K 2 R__law_turned) :=
  fnD T._law_turned.fn sc__law_turned fun cdv A outer s H E hr =>
  (ss_one (s_ret [0, 1, 2] (d_join (d_str []) (d_n (dn_lc (own := [("_law_k", 2)]) rfl sc__law_turned.nd (di_r (dr_range1 rfl T.b_range (da_cons (d_len rfl T.b_len (da_cons (dv 0) da_nil)) da_nil))) (blkOk_by (N := ["_law_text_here", "_law_places", "_law_k"]) (sc := defScope s__law_turned) (by decide +kernel)) (tg_name 2) (by decide) (fun _ _ _ _ _ => (pg_name (i := 2) sc__law_turned.nd rfl (by first | exact Or.inl rfl | exact Or.inr rfl))) (fun _ _ _ _ _ => dts_nil) (fun _ _ _ _ _ => (d_ix (dv 0) (d_mod (d_cint rfl T.b_int (da_cons (d_sub (dv 2) (dv 1)) da_nil)) (d_len rfl T.b_len (da_cons (dv 0) da_nil))))))))))
/-! turned_by -/
def F_turned_by : Env2 → M Out :=
  (seqM (setM 2 [0, 1] (e2 modD (rdEnv 1) (eCall lenF (aC (rdEnv 0) aN))))
  (retM [0, 2] (e2 addD (eSl (rdEnv 0) (oS (e2 subD (eCall lenF (aC (rdEnv 0) aN)) (rdEnv 2))) oN) (eSl (rdEnv 0) oN (oS (e2 subD (eCall lenF (aC (rdEnv 0) aN)) (rdEnv 2)))))))
def R_turned_by : List D → M D := runD 3 F_turned_by
theorem sc_turned_by : FnScope ["text", "places", "at"] ["text", "places"] (defScope s_turned_by) := ⟨rfl, rfl, rfl, by decide +kernel, rfl, by decide +kernel, by decide +kernel⟩
theorem ok_turned_by (T : Txt K mg FA) : FnOk P w K mg base CX0 1 FA.a_turned_by FA.d_turned_by ["text", "places"] (spD K 2 R_turned_by) :=
  fnD T.turned_by.fn sc_turned_by fun cdv A outer s H E hr =>
  (ss_cons (s_set 2 [0, 1] sc_turned_by.nd rfl (by first | exact Or.inl rfl | exact Or.inr rfl) (d_mod (dv 1) (d_len rfl T.b_len (da_cons (dv 0) da_nil))))
  (ss_one (s_ret [0, 2] (d_add (d_slice (dv 0) (do_some (d_sub (d_len rfl T.b_len (da_cons (dv 0) da_nil)) (dv 2))) do_none) (d_slice (dv 0) do_none (do_some (d_sub (d_len rfl T.b_len (da_cons (dv 0) da_nil)) (dv 2))))))))
/-! turns_between -/
def F_turns_between : Env2 → M Out :=
  (retNM [0, 1, 2] (nLc [2] (DL.iRng1 (aC (eCall lenF (aC (rdEnv 0) aN)) aN)) (bName 2) (t2 (eqD false) (eCall R_turned_by (aC (rdEnv 0) (aC (rdEnv 2) aN))) (rdEnv 1)) (rdEnv 2)))
def R_turns_between : List D → M (List D) := runN 3 F_turns_between
theorem sc_turns_between : FnScope ["text", "other", "places"] ["text", "other"] (defScope s_turns_between) := ⟨rfl, rfl, rfl, by decide +kernel, rfl, by decide +kernel, by decide +kernel⟩
theorem ok_turns_between (T : Txt K mg FA) : FnOk P w K mg base CX0 2 FA.a_turns_between FA.d_turns_between ["text", "other"] (spN K 2 R_turns_between) :=
  fnN T.turns_between.fn sc_turns_between fun cdv A outer s H E hr =>
  (ss_one (s_retN [0, 1, 2] (dn_lc (own := [("places", 2)]) rfl sc_turns_between.nd (di_r (dr_range1 rfl T.b_range (da_cons (d_len rfl T.b_len (da_cons (dv 0) da_nil)) da_nil))) (blkOk_by (N := ["text", "other", "places"]) (sc := defScope s_turns_between) (by decide +kernel)) (tg_name 2) (by decide) (fun _ _ _ _ _ => (pg_name (i := 2) sc_turns_between.nd rfl (by first | exact Or.inl rfl | exact Or.inr rfl))) (fun _ _ _ _ _ => (dts_one (t_eq hr.units (d_call (ok_turned_by T) (hr.mono (by decide)) rfl T.turned_by.gl T.turned_by.fn.kp T.turned_by.bd (da_cons (dv 0) (da_cons (dv 2) da_nil)) (ar_cons (ar_cons ar_nil))) (dv 1)))) (fun _ _ _ _ _ => (dv 2)))))
/-! _law_alike -/
def F__law_alike : Env2 → M Out :=
  (retM [0, 1] (eAnd (e2 (eqD false) (rdEnv 0) (rdEnv 1)) (e2 (eqD false) (eCall reprF (aC (rdEnv 0) aN)) (eCall reprF (aC (rdEnv 1) aN)))))
def R__law_alike : List D → M D := runD 2 F__law_alike
theorem sc__law_alike : FnScope ["_law_found", "_law_due"] ["_law_found", "_law_due"] (defScope s__law_alike) := ⟨rfl, rfl, rfl, by decide +kernel, rfl, by decide +kernel, by decide +kernel⟩
theorem ok__law_alike (T : Txt K mg FA) : FnG P w K mg base 1 FA.a__law_alike FA.d__law_alike ["_law_found", "_law_due"] (spD K 2 R__law_alike) :=
  fnGD T._law_alike.fn sc__law_alike fun cdv A outer s H hr hgd =>
  (ss_one (s_ret [0, 1] (d_and (d_eq hr.units (dv 0) (dv 1)) (d_one (d_eq hr.units (d_repr hgd (repr_room hr) rfl T.b_repr (da_cons (dv 0) da_nil)) (d_repr hgd (repr_room hr) rfl T.b_repr (da_cons (dv 1) da_nil)))))))
/-! window_at -/
def F_window_at : Env2 → M Out :=
  (retM [0, 1, 2, 3] (e2 joinF (cst (.str [])) (eN (nLc [3] (DL.iRng2 (aC (e1 negD (rdEnv 2)) (aC (e2 addD (rdEnv 2) (cst (.int 1))) aN))) (bName 3) cT (e2 ixD (rdEnv 0) (e2 modD (e2 addD (rdEnv 1) (rdEnv 3)) (eCall lenF (aC (rdEnv 0) aN))))))))
def R_window_at : List D → M D := runD 4 F_window_at
theorem sc_window_at : FnScope ["text", "seat", "reach", "step"] ["text", "seat", "reach"] (defScope s_window_at) := ⟨rfl, rfl, rfl, by decide +kernel, rfl, by decide +kernel, by decide +kernel⟩
theorem ok_window_at (T : Txt K mg FA) : FnOk P w K mg base CX0 1 FA.a_window_at FA.d_window_at ["text", "seat", "reach"] (spD K 3 R_window_at) :=
  fnD T.window_at.fn sc_window_at fun cdv A outer s H E hr =>
  (ss_one (s_ret [0, 1, 2, 3] (d_join (d_str []) (d_n (dn_lc (own := [("step", 3)]) rfl sc_window_at.nd (di_r (dr_range2 rfl T.b_range (da_cons (d_neg (dv 2)) (da_cons (d_add (dv 2) d_int) da_nil)))) (blkOk_by (N := ["text", "seat", "reach", "step"]) (sc := defScope s_window_at) (by decide +kernel)) (tg_name 3) (by decide) (fun _ _ _ _ _ => (pg_name (i := 3) sc_window_at.nd rfl (by first | exact Or.inl rfl | exact Or.inr rfl))) (fun _ _ _ _ _ => dts_nil) (fun _ _ _ _ _ => (d_ix (dv 0) (d_mod (d_add (dv 1) (dv 3)) (d_len rfl T.b_len (da_cons (dv 0) da_nil))))))))))
/-! law -/
def F_law : Env2 → M Out :=
  (seqM (forRM [] (DL.iRng1 (aC (cst (.int 8)) aN)) (bName 2)
  (seqM (setM 3 [1] (eCall R__law_take (aC (rdEnv 1) (aC (cst (.int 3)) aN))))
  (seqM (setM 4 [1, 3] (e2 mulD (eCall R__law_text (aC (rdEnv 1) (aC (rdEnv 3) (aC (e2 ixD (eN (nLst (aC (cst (.int 5)) (aC (cst (.int 5)) (aC (cst (.int 5)) (aC (cst (.int 20)) aN)))))) (eCall R__law_take (aC (rdEnv 1) (aC (cst (.int 4)) aN)))) aN)))) (e2 addD (cst (.int 1)) (eCall R__law_take (aC (rdEnv 1) (aC (cst (.int 2)) aN))))))
  (seqM (setNM 5 [1, 3, 4] (nLst (aC (eCall R__law_turned (aC (rdEnv 4) (aC (eCall R__law_take (aC (rdEnv 1) (aC (cst (.int 9)) aN))) aN))) (aC (e1 revD (rdEnv 4)) (aC (eCall R__law_text (aC (rdEnv 1) (aC (rdEnv 3) (aC (cst (.int 6)) aN)))) (aC (eSl (e2 addD (rdEnv 4) (rdEnv 4)) oN (oS (cst (.int 40)))) (aC (rdEnv 4) aN)))))))
  (seqM (setM 6 [1, 4, 5] (eCall R__law_pick (aC (rdEnv 1) (aC (e2 addD (rdEnv 5) (eN (nLst (aC (e2 addD (eSl (rdEnv 4) oN (oS (e1 negD (cst (.int 1))))) (cst (.str [48]))) aN)))) aN))))
  (seqM (setNM 7 [4, 6, 13] (nLc [13] (DL.iRng1 (aC (eCall lenF (aC (rdEnv 4) aN)) aN)) (bName 13) (t2 (eqD false) (eCall R__law_turned (aC (rdEnv 4) (aC (rdEnv 13) aN))) (rdEnv 6)) (rdEnv 13)))
  (seqM (forRM [] (DL.iRng1 (aC (cst (.int 2)) aN)) (bName 8)
  (seqM (setNM 10 [4, 6] (nCall R_turns_between (aC (rdEnv 4) (aC (rdEnv 6) aN))))
  (seqM (ifM [7, 10] (tNotM (tVal (eCall R__law_alike (aC (rdEnv 10) (aC (rdEnv 7) aN)))))
  (retM [] (cst (.bl false)))
  sNil)
  (appM 10 [] (cst .non)))))
  (seqM (unpM (bTup 2 (bCons (bName 11) (bCons (bName 12) bNil))) [1, 4] (eTup (aC (eCall R__law_take (aC (rdEnv 1) (aC (eCall lenF (aC (rdEnv 4) aN)) aN))) (aC (eCall R__law_take (aC (rdEnv 1) (aC (e2 ixD (eN (nLst (aC (cst (.int 4)) (aC (cst (.int 20)) aN)))) (eCall R__law_take (aC (rdEnv 1) (aC (cst (.int 2)) aN)))) aN))) aN))))
  (seqM (setM 9 [4, 11, 12, 14] (e2 joinF (cst (.str [])) (eN (nLc [14] (DL.iRng2 (aC (e2 subD (cst (.int 0)) (rdEnv 12)) (aC (e2 addD (rdEnv 12) (cst (.int 1))) aN))) (bName 14) cT (e2 ixD (rdEnv 4) (e2 modD (eCall intF (aC (e2 addD (rdEnv 11) (rdEnv 14)) aN)) (eCall lenF (aC (rdEnv 4) aN))))))))
  (ifM [4, 9, 11, 12] (tNotM (tVal (eCall R__law_alike (aC (eN (nLst (aC (eCall R_window_at (aC (rdEnv 4) (aC (rdEnv 11) (aC (rdEnv 12) aN)))) (aC (eCall R_window_at (aC (rdEnv 4) (aC (rdEnv 11) (aC (cst (.int 0)) aN)))) aN)))) (aC (eN (nLst (aC (rdEnv 9) (aC (e2 ixD (rdEnv 4) (rdEnv 11)) aN)))) aN)))))
  (retM [] (cst (.bl false)))
  sNil))))))))))
  (retM [] (cst (.bl true))))
theorem sc_law : FnScope ["_law_script", "_law_bag_here", "_law_turn", "_law_rests", "_law_text_here", "_law_near", "_law_other", "_law_due", "_law_again", "_law_row", "_law_found", "_law_seat", "_law_reach", "_law_k", "_law_step"] ["_law_script"] (defScope s_law) := ⟨rfl, rfl, rfl, by decide +kernel, rfl, by decide +kernel, by decide +kernel⟩
theorem ok_law (T : Txt K mg FA) (hmath : ∀ (p : Addr), Tot p (F_law (env0 13 p)) fun o => o = .rt (.bl true)) : FnG P w K mg base 3 FA.a_law FA.d_law ["_law_script"] (spLaw K) :=
  fn_g T.law.fn sc_law (fun vs H Q E h => by obtain ⟨a, ns, rfl, _⟩ := h; rfl) fun cdv A outer s H vs Q hr hgd h => ⟨_, pss_cons (ps_set (i := 1) sc_law.nd rfl (by first | exact Or.inl rfl | exact Or.inr rfl) (pe_call (ok__law_bag T) (hr.mono (by decide)) rfl T._law_bag.gl T._law_bag.fn.kp T._law_bag.bd .nil pass0 (da_cons (dv 0) da_nil)))
  (ss_cons (s_forR [] PassesOwn.never rfl (dr_range1 rfl T.b_range (da_cons d_int da_nil)) (pg_name (i := 2) sc_law.nd rfl (by first | exact Or.inl rfl | exact Or.inr rfl)) (tg_name 2)
  (ss_cons (s_set 3 [1] sc_law.nd rfl (by first | exact Or.inl rfl | exact Or.inr rfl) (d_call (ok__law_take T) (hr.mono (by decide)) rfl T._law_take.gl T._law_take.fn.kp T._law_take.bd (da_cons (dv 1) (da_cons d_int da_nil)) (ar_cons (ar_cons ar_nil))))
  (ss_cons (s_set 4 [1, 3] sc_law.nd rfl (by first | exact Or.inl rfl | exact Or.inr rfl) (d_mul (d_call (ok__law_text T) (hr.mono (by decide)) rfl T._law_text.gl T._law_text.fn.kp T._law_text.bd (da_cons (dv 1) (da_cons (dv 3) (da_cons (d_ix (d_n (dn_lst (da_cons d_int (da_cons d_int (da_cons d_int (da_cons d_int da_nil)))))) (d_call (ok__law_take T) (hr.mono (by decide)) rfl T._law_take.gl T._law_take.fn.kp T._law_take.bd (da_cons (dv 1) (da_cons d_int da_nil)) (ar_cons (ar_cons ar_nil)))) da_nil))) (ar_cons (ar_cons (ar_cons ar_nil)))) (d_add d_int (d_call (ok__law_take T) (hr.mono (by decide)) rfl T._law_take.gl T._law_take.fn.kp T._law_take.bd (da_cons (dv 1) (da_cons d_int da_nil)) (ar_cons (ar_cons ar_nil))))))
  (ss_cons (s_setN 5 [1, 3, 4] sc_law.nd rfl (by first | exact Or.inl rfl | exact Or.inr rfl) (dn_lst (da_cons (d_call (ok__law_turned T) (hr.mono (by decide)) rfl T._law_turned.gl T._law_turned.fn.kp T._law_turned.bd (da_cons (dv 4) (da_cons (d_call (ok__law_take T) (hr.mono (by decide)) rfl T._law_take.gl T._law_take.fn.kp T._law_take.bd (da_cons (dv 1) (da_cons d_int da_nil)) (ar_cons (ar_cons ar_nil))) da_nil)) (ar_cons (ar_cons ar_nil))) (da_cons (d_rev (dv 4)) (da_cons (d_call (ok__law_text T) (hr.mono (by decide)) rfl T._law_text.gl T._law_text.fn.kp T._law_text.bd (da_cons (dv 1) (da_cons (dv 3) (da_cons d_int da_nil))) (ar_cons (ar_cons (ar_cons ar_nil)))) (da_cons (d_slice (d_add (dv 4) (dv 4)) do_none (do_some d_int)) (da_cons (dv 4) da_nil)))))))
  (ss_cons (s_set 6 [1, 4, 5] sc_law.nd rfl (by first | exact Or.inl rfl | exact Or.inr rfl) (d_call (ok__law_pick T) (hr.mono (by decide)) rfl T._law_pick.gl T._law_pick.fn.kp T._law_pick.bd (da_cons (dv 1) (da_cons (d_add (dv 5) (d_n (dn_lst (da_cons (d_add (d_slice (dv 4) do_none (do_some (d_neg d_int))) (d_str [48])) da_nil)))) da_nil)) (ar_cons (ar_cons ar_nil))))
  (ss_cons (s_setLc (own := [("_law_k", 13)]) 7 [4, 6, 13] rfl sc_law.nd rfl rfl (sw_true rfl rfl rfl (by decide +kernel)) (di_r (dr_range1 rfl T.b_range (da_cons (d_len rfl T.b_len (da_cons (dv 4) da_nil)) da_nil))) (blkOk_by (N := ["_law_script", "_law_bag_here", "_law_turn", "_law_rests", "_law_text_here", "_law_near", "_law_other", "_law_due", "_law_again", "_law_row", "_law_found", "_law_seat", "_law_reach", "_law_k", "_law_step"]) (sc := defScope s_law) (by decide +kernel)) (tg_name 13) (by decide) (fun _ _ _ _ _ => (pg_name (i := 13) sc_law.nd rfl (by first | exact Or.inl rfl | exact Or.inr rfl))) (fun _ _ _ _ _ => (dts_one (t_eq hr.units (d_call (ok__law_turned T) (hr.mono (by decide)) rfl T._law_turned.gl T._law_turned.fn.kp T._law_turned.bd (da_cons (dv 4) (da_cons (dv 13) da_nil)) (ar_cons (ar_cons ar_nil))) (dv 6)))) (fun _ _ _ _ _ => (dv 13)))
  (ss_cons (s_forR [] PassesOwn.never rfl (dr_range1 rfl T.b_range (da_cons d_int da_nil)) (pg_name (i := 8) sc_law.nd rfl (by first | exact Or.inl rfl | exact Or.inr rfl)) (tg_name 8)
  (ss_cons (s_setN 10 [4, 6] sc_law.nd rfl (by first | exact Or.inl rfl | exact Or.inr rfl) (dn_call (ok_turns_between T) (hr.mono (by decide)) rfl T.turns_between.gl T.turns_between.fn.kp T.turns_between.bd (da_cons (dv 4) (da_cons (dv 6) da_nil)) (ar_cons (ar_cons ar_nil))))
  (ss_cons (s_if [7, 10] (t_not (t_val (d_callG (ok__law_alike T) (hr.mono (by decide)) hgd rfl T._law_alike.gl T._law_alike.fn.kp T._law_alike.bd (da_cons (dv 10) (da_cons (dv 7) da_nil)) (ar_cons (ar_cons ar_nil)))))
  (ss_one (s_ret [] d_bl))
  ss_nil)
  (ss_one (s_append 10 [] d_non)))))
  (ss_cons (s_unp (bs := (bTup 2 (bCons (bName 11) (bCons (bName 12) bNil)))) [1, 4] (d_tup (da_cons (d_call (ok__law_take T) (hr.mono (by decide)) rfl T._law_take.gl T._law_take.fn.kp T._law_take.bd (da_cons (dv 1) (da_cons (d_len rfl T.b_len (da_cons (dv 4) da_nil)) da_nil)) (ar_cons (ar_cons ar_nil))) (da_cons (d_call (ok__law_take T) (hr.mono (by decide)) rfl T._law_take.gl T._law_take.fn.kp T._law_take.bd (da_cons (dv 1) (da_cons (d_ix (d_n (dn_lst (da_cons d_int (da_cons d_int da_nil)))) (d_call (ok__law_take T) (hr.mono (by decide)) rfl T._law_take.gl T._law_take.fn.kp T._law_take.bd (da_cons (dv 1) (da_cons d_int da_nil)) (ar_cons (ar_cons ar_nil)))) da_nil)) (ar_cons (ar_cons ar_nil))) da_nil))) (pg_tup (by rfl) (pgs_cons (pg_name (i := 11) sc_law.nd rfl (by first | exact Or.inl rfl | exact Or.inr rfl)) (pgs_cons (pg_name (i := 12) sc_law.nd rfl (by first | exact Or.inl rfl | exact Or.inr rfl)) pgs_nil))) (tg_tup 2 (tgs_cons (tg_name 11) (tgs_cons (tg_name 12) tgs_nil))))
  (ss_cons (s_set 9 [4, 11, 12, 14] sc_law.nd rfl (by first | exact Or.inl rfl | exact Or.inr rfl) (d_join (d_str []) (d_n (dn_lc (own := [("_law_step", 14)]) rfl sc_law.nd (di_r (dr_range2 rfl T.b_range (da_cons (d_sub d_int (dv 12)) (da_cons (d_add (dv 12) d_int) da_nil)))) (blkOk_by (N := ["_law_script", "_law_bag_here", "_law_turn", "_law_rests", "_law_text_here", "_law_near", "_law_other", "_law_due", "_law_again", "_law_row", "_law_found", "_law_seat", "_law_reach", "_law_k", "_law_step"]) (sc := defScope s_law) (by decide +kernel)) (tg_name 14) (by decide) (fun _ _ _ _ _ => (pg_name (i := 14) sc_law.nd rfl (by first | exact Or.inl rfl | exact Or.inr rfl))) (fun _ _ _ _ _ => dts_nil) (fun _ _ _ _ _ => (d_ix (dv 4) (d_mod (d_cint rfl T.b_int (da_cons (d_add (dv 11) (dv 14)) da_nil)) (d_len rfl T.b_len (da_cons (dv 4) da_nil)))))))))
  (ss_one (s_if [4, 9, 11, 12] (t_not (t_val (d_callG (ok__law_alike T) (hr.mono (by decide)) hgd rfl T._law_alike.gl T._law_alike.fn.kp T._law_alike.bd (da_cons (d_n (dn_lst (da_cons (d_call (ok_window_at T) (hr.mono (by decide)) rfl T.window_at.gl T.window_at.fn.kp T.window_at.bd (da_cons (dv 4) (da_cons (dv 11) (da_cons (dv 12) da_nil))) (ar_cons (ar_cons (ar_cons ar_nil)))) (da_cons (d_call (ok_window_at T) (hr.mono (by decide)) rfl T.window_at.gl T.window_at.fn.kp T.window_at.bd (da_cons (dv 4) (da_cons (dv 11) (da_cons d_int da_nil))) (ar_cons (ar_cons (ar_cons ar_nil)))) da_nil)))) (da_cons (d_n (dn_lst (da_cons (dv 9) (da_cons (d_ix (dv 4) (dv 11)) da_nil)))) da_nil)) (ar_cons (ar_cons ar_nil)))))
  (ss_one (s_ret [] d_bl))
  ss_nil)))))))))))
  (ss_one (s_ret [] d_bl))), law_run rfl bag_made hmath h⟩
end
end LW
set_option Elab.async false
set_option maxRecDepth 100000
set_option autoImplicit false
set_option linter.unusedVariables false
set_option maxHeartbeats 4000000
namespace LW
open PySem L2 DL
local macro_rules | `(tactic| walk_at "ev") => `(tactic| try simp -implicitDefEqProofs only [DL.runD, DL.runN, DL.startD, seqM, setM, setNM, retM, retNM, dropM, ifM, unpM, List.map_cons, List.map_nil, List.length_cons, List.length_nil, Nat.reduceAdd, Nat.reduceSub, List.replicate, List.cons_append, List.nil_append, view_eq, viewAt_cons, viewAt_nil, List.contains_cons, List.contains_nil, Nat.reduceBEq, Bool.or_true, Bool.or_false, Bool.true_or, if_true, Bool.false_eq_true, if_false, Option.map_some, Option.map_none, see_val, see_own, e2, t2, e1, cst, aN, aC, eCall, nCall, eN, nLst, eTup, tVal, tNotM, eAnd, eNot, eIf, iAny, DL.iRng1, DL.iRng2, nLc, oN, oS, eSl, sNil, rd_0, rd_1, rd_2, rd_3, rd_4, rd_5, rd_6, rd_7, rd_8, rd_9, rd_10, rd_11, rd_12, rd_13, rd_14, rd_15, rd_16, rd_17, rd_18, M.ret_bind, M.bind_assoc, flat_int, flat_str, flat_bl, flat_non, flat_bag, flat_lst, flat_tup, keepIf_t, keepIf_f, frz_eq, frzAt_cons, frzAt_nil, List.set_cons_succ, List.set_cons_zero, subD_int, addD_int, negD_int, asI_int, asB_bl, truD_bl, lenF_lst, lenF_tup, intF_int, intF_bl, absF_int, ltD_int, leD_int, gtD_int, geD_int, eqD_int, eqD_str, neD_int, neD_str, inD_str, notInD_str, slD_lst, slD_scr, revD_lst, itemsD_lst, itemsD_tup, itemsD_str, Bool.not_true, Bool.not_false])
local macro_rules | `(tactic| walk_at "evs") => `(tactic| try simp -implicitDefEqProofs only [DL.runD, DL.runN, DL.startD, seqM, setM, setNM, retM, retNM, dropM, ifM, unpM, List.map_cons, List.map_nil, List.length_cons, List.length_nil, Nat.reduceAdd, Nat.reduceSub, List.replicate, List.cons_append, List.nil_append, view_eq, viewAt_cons, viewAt_nil, List.contains_cons, List.contains_nil, Nat.reduceBEq, Bool.or_true, Bool.or_false, Bool.true_or, if_true, Bool.false_eq_true, if_false, Option.map_some, Option.map_none, see_val, see_own, e2, t2, e1, cst, aN, aC, eCall, nCall, eN, nLst, eTup, tVal, tNotM, eAnd, eNot, eIf, iAny, DL.iRng1, DL.iRng2, nLc, oN, oS, eSl, sNil, rd_0, rd_1, rd_2, rd_3, rd_4, rd_5, rd_6, rd_7, rd_8, rd_9, rd_10, rd_11, rd_12, rd_13, rd_14, rd_15, rd_16, rd_17, rd_18, M.ret_bind, M.bind_assoc, flat_int, flat_str, flat_bl, flat_non, flat_bag, flat_lst, flat_tup, keepIf_t, keepIf_f, frz_eq, frzAt_cons, frzAt_nil, List.set_cons_succ, List.set_cons_zero, subD_int, addD_int, negD_int, asI_int, asB_bl, truD_bl, lenF_lst, lenF_tup, intF_int, intF_bl, absF_int, ltD_int, leD_int, gtD_int, geD_int, eqD_int, eqD_str, neD_int, neD_str, inD_str, notInD_str, slD_lst, slD_scr, revD_lst, itemsD_lst, itemsD_tup, itemsD_str, Bool.not_true, Bool.not_false, lenF_str, slD_str, modD_int, revD_str, *])
local macro_rules | `(tactic| walk_at "env") => `(tactic| try simp -implicitDefEqProofs only [List.all_cons, List.all_nil, Bool.and_true, Bool.true_and, setAll2, bName, env0, List.replicate, flat_int, flat_str, flat_bl, flat_non, flat_bag, flat_lst, flat_tup, keepIf_t, keepIf_f, frz_eq, frzAt_cons, frzAt_nil, List.contains_cons, List.contains_nil, Nat.reduceBEq, Nat.reduceAdd, Bool.or_true, Bool.or_false, Bool.true_or, if_true, Bool.false_eq_true, if_false, Option.map_some, Option.map_none, see_val, see_own, List.set_cons_succ, List.set_cons_zero])
theorem bx0 {α : Type} {p : Addr} {g : Bg} {f : D → M α} (h : g.p = p) : M.bind (ixD (.bag p) (.int 0)) f (some g) = f (.int g.z0) (some g) := by
  subst h
  refine M.bind_eq ?_
  show (if g.p = g.p then _ else none) = _
  rw [if_pos rfl]; rfl
theorem bx1 {α : Type} {p : Addr} {g : Bg} {f : D → M α} (h : g.p = p) : M.bind (ixD (.bag p) (.int 1)) f (some g) = f (.int g.z1) (some g) := by
  subst h
  refine M.bind_eq ?_
  show (if g.p = g.p then _ else none) = _
  rw [if_pos rfl]; rfl
theorem bx2 {α : Type} {p : Addr} {g : Bg} {f : D → M α} (h : g.p = p) : M.bind (ixD (.bag p) (.int 2)) f (some g) = f (.int g.z2) (some g) := by
  subst h
  refine M.bind_eq ?_
  show (if g.p = g.p then _ else none) = _
  rw [if_pos rfl]; rfl
theorem bx3 {α : Type} {p : Addr} {g : Bg} {f : D → M α} (h : g.p = p) : M.bind (ixD (.bag p) (.int 3)) f (some g) = f (.lst (g.cs.map D.int)) (some g) := by
  subst h
  refine M.bind_eq ?_
  show (if g.p = g.p then _ else none) = _
  rw [if_pos rfl]; rfl
theorem bput {p : Addr} {g g' : Bg} {k n : Int} {r : Env2} (h : g.p = p) (e : putB k n g = some g') : bagPut 0 k (.int n) (some (.val (.bag p)) :: r) (some g) = some (.nx (some (.val (.bag p)) :: r), some g') := by
  subst h
  show (if g.p = g.p then _ else none) = _
  rw [if_pos rfl, e]; rfl
def takeTail : Env2 → M Out :=
  (seqM (ifM [0] (t2 gtD (e2 ixD (rdEnv 0) (cst (.int 0))) (cst (.int 0)))
  (seqM (setM 6 [0, 1] (e2 modD (eCall intF (aC (e2 ixD (rdEnv 0) (cst (.int 0))) aN)) (rdEnv 1)))
  (seqM (bagSetM 0 0 [0, 1] (e2 divD (e2 ixD (rdEnv 0) (cst (.int 0))) (rdEnv 1)))
  (retM [6] (rdEnv 6))))
  sNil)
  (seqM (setM 2 [0] (e2 modD (eCall intF (aC (e2 mulD (e2 addD (e2 ixD (rdEnv 0) (cst (.int 1))) (cst (.int 1))) (cst (.int 39373))) aN)) (cst (.int 1000000007))))
  (seqM (setM 3 [2] (e2 modD (eCall intF (aC (e2 mulD (e2 modD (eCall intF (aC (e2 mulD (rdEnv 2) (rdEnv 2)) aN)) (cst (.int 998244353))) (cst (.int 30011))) aN)) (cst (.int 998244353))))
  (seqM (ifM [1] (t2 gtD (rdEnv 1) (cst (.int 1000000)))
  (retM [1, 2, 3] (e2 modD (eCall intF (aC (e2 addD (e2 mulD (rdEnv 3) (cst (.int 1000000007))) (rdEnv 2)) aN)) (rdEnv 1)))
  sNil)
  (retM [1, 3] (e2 modD (eCall intF (aC (e2 divD (rdEnv 3) (cst (.int 7))) aN)) (rdEnv 1)))))))
/-- the last part -/
theorem take_end {p : Addr} {m : Int} (h1 : 1 ≤ m) (h2 : m < 1073741824) {s4 s5 : Option Slot} (g : Bg) (hg : okB p g) : ∃ d g', (M.bind (takeTail [some (.val (.bag p)), some (.val (.int m)), none, none, s4, s5, none]) fun o => match o with
  | .rt d => M.ret d
  | .rn xs => M.ret (.lst xs)
  | .nx _ => M.ret .non
  | _ => M.fail) (some g) = some (d, some g') ∧ okB p g' ∧ ∃ v, d = .int v ∧ 0 ≤ v ∧ v < m := by
  obtain ⟨hp, hz⟩ := hg
  have hm : 0 < m := by omega
  have fin : ∀ z : Int, 0 ≤ z % m ∧ z % m < m := fun z => ⟨Int.emod_nonneg _ (by omega), Int.emod_lt_of_pos _ hm⟩
  unfold takeTail
  walk_at "ev"
  rw [bx0 hp]
  walk_at "ev"
  by_cases h0 : 0 < g.z0
  · simp only [decide_eq_true h0, if_true]
    walk_at "ev"
    rw [bx0 hp]
    walk_at "ev"
    simp only [modD_int hm]
    walk_at "ev"
    simp only [bagSetM]
    walk_at "ev"
    rw [bx0 hp, divD_int hm h2]
    walk_at "ev"
    rw [M.bind_eq (bput hp (show putB 0 (g.z0 / m) g = some { g with z0 := g.z0 / m } from rfl))]
    walk_at "ev"
    exact ⟨_, _, rfl, ⟨hp, hz⟩, _, rfl, fin _⟩
  · simp only [decide_eq_false h0, if_false, Bool.false_eq_true]
    walk_at "ev"
    rw [bx1 hp]
    walk_at "ev"
    rw [mulD_int (okM_r (by decide) (by decide))]
    walk_at "ev"
    simp only [modD_int (show (0 : Int) < 1000000007 by decide), modD_int (show (0 : Int) < 998244353 by decide)]
    walk_at "ev"
    have hb : ∀ z : Int, 0 ≤ z % 1000000007 ∧ z % 1000000007 < 1000000007 := fun z => ⟨Int.emod_nonneg _ (by decide), Int.emod_lt_of_pos _ (by decide)⟩
    have hb1 := hb ((g.z1 + 1) * 39373)
    rw [mulD_int (okM_r (by omega) (by omega))]
    walk_at "ev"
    rw [modD_int (show (0 : Int) < 998244353 by decide)]
    walk_at "ev"
    rw [mulD_int (okM_r (by decide) (by decide))]
    walk_at "ev"
    rw [modD_int (show (0 : Int) < 998244353 by decide)]
    walk_at "ev"
    by_cases h3 : 1000000 < m
    · simp only [decide_eq_true h3, if_true]
      walk_at "ev"
      rw [mulD_int (okM_r (by decide) (by decide))]
      walk_at "ev"
      rw [modD_int hm]
      walk_at "ev"
      exact ⟨_, _, rfl, ⟨hp, hz⟩, _, rfl, fin _⟩
    · simp only [decide_eq_false h3, if_false, Bool.false_eq_true]
      walk_at "ev"
      rw [divD_int (by decide) (by decide)]
      walk_at "ev"
      rw [modD_int hm]
      walk_at "ev"
      exact ⟨_, _, rfl, ⟨hp, hz⟩, _, rfl, fin _⟩
theorem seq_app {F1 F2 : Env2 → M Out} {ρ ρ' : Env2} {b b' : Bs} (h : F1 ρ b = some (.nx ρ', b')) : seqM F1 F2 ρ b = F2 ρ' b' := M.bind_eq h
theorem bindF_app {α : Type} {m m' : M Out} {k : Out → M α} {b b' : Bs} (h : m b = m' b') : M.bind m k b = M.bind m' k b' := by
  unfold M.bind
  rw [h]
theorem take_cell {p : Addr} {m : Int} (g : Bg) (hg : okB p g) {c : Int} : ∃ s5 g', (seqM (bagAugM 0 2 [] (cst (.int 1)))
  (seqM (ifM [4] (t2 geD (rdEnv 4) (cst (.int 1000000000000000000)))
  (bagSetM 0 0 [4] (rdEnv 4))
  sNil)
  (seqM (setM 5 [0, 4] (e2 addD (e2 addD (e2 mulD (e2 ixD (rdEnv 0) (cst (.int 1))) (cst (.int 48271))) (e2 modD (eCall intF (aC (rdEnv 4) aN)) (cst (.int 2147483647)))) (e2 mulD (cst (.int 7919)) (e2 ixD (rdEnv 0) (cst (.int 2))))))
  (bagSetM 0 1 [5] (e2 modD (eCall intF (aC (rdEnv 5) aN)) (cst (.int 2147483647))))))) [some (.val (.bag p)), some (.val (.int m)), none, none, some (.val (.int c)), none, none] (some g) = some (.nx [some (.val (.bag p)), some (.val (.int m)), none, none, some (.val (.int c)), s5, none], some g') ∧ okB p g' := by
  obtain ⟨hp, hz⟩ := hg
  have e1 : bagAugM 0 2 [] (cst (.int 1)) [some (.val (.bag p)), some (.val (.int m)), none, none, some (.val (.int c)), none, none] (some g) = some (.nx [some (.val (.bag p)), some (.val (.int m)), none, none, some (.val (.int c)), none, none], some { g with z2 := g.z2 + 1 }) := by
    simp only [bagAugM, cst, M.ret_bind]
    rw [if_neg (by decide), if_neg (by decide)]
    exact bput hp rfl
  rw [seq_app e1]
  have e2' : ∃ z, (ifM [4] (t2 geD (rdEnv 4) (cst (.int 1000000000000000000))) (bagSetM 0 0 [4] (rdEnv 4)) sNil) [some (.val (.bag p)), some (.val (.int m)), none, none, some (.val (.int c)), none, none] (some { g with z2 := g.z2 + 1 }) = some (.nx [some (.val (.bag p)), some (.val (.int m)), none, none, some (.val (.int c)), none, none], some { g with z2 := g.z2 + 1, z0 := z }) := by
    walk_at "ev"
    by_cases h : 1000000000000000000 ≤ c
    · simp only [decide_eq_true h, if_true, bagSetM]
      walk_at "ev"
      exact ⟨c, bput hp rfl⟩
    · simp only [decide_eq_false h, if_false, Bool.false_eq_true]
      exact ⟨g.z0, rfl⟩
  obtain ⟨z, e3⟩ := e2'
  rw [seq_app e3]
  walk_at "ev"
  simp only [bagSetM]
  walk_at "ev"
  rw [bx1 (by exact hp)]
  rw [mulD_int (okM_r (by decide) (by decide))]
  walk_at "ev"
  rw [modD_int (by decide)]
  walk_at "ev"
  rw [bx2 (by exact hp)]
  rw [mulD_int (okM_l (by decide) (by decide))]
  walk_at "ev"
  rw [modD_int (by decide)]
  walk_at "ev"
  refine ⟨_, _, bput (by exact hp) rfl, ?_, ?_⟩
  · exact hp
  · show 0 ≤ g.z2 + 1
    omega
theorem take_tot {p : Addr} {m : Int} (h1 : 1 ≤ m) (h2 : m < 1073741824) : Tot p (R__law_take [.bag p, .int m]) fun d => ∃ v, d = .int v ∧ 0 ≤ v ∧ v < m := by
  intro g hg
  obtain ⟨hp, hz⟩ := id hg
  show ∃ d g', M.bind (F__law_take [some (.val (.bag p)), some (.val (.int m)), none, none, none, none, none]) _ (some g) = some (d, some g') ∧ _
  by_cases h0 : g.z0 = 0
  · have hh : ∃ s4 s5 g', F__law_take [some (.val (.bag p)), some (.val (.int m)), none, none, none, none, none] (some g) = takeTail [some (.val (.bag p)), some (.val (.int m)), none, none, s4, s5, none] (some g') ∧ okB p g' := by
      by_cases hc : g.z2 < (g.cs.length : Int)
      · obtain ⟨c, hc2⟩ : ∃ c, atI (g.cs.map D.int) g.z2 = some (D.int c) := by
          rw [atI_lt hz (by simpa using hc), List.getElem?_map, List.getElem?_eq_getElem (by omega)]
          exact ⟨_, rfl⟩
        obtain ⟨s5, g', e, ho⟩ := take_cell (m := m) g hg (c := c)
        refine ⟨some (.val (.int c)), s5, g', ?_, ho⟩
        unfold F__law_take
        refine seq_app ?_
        rw [← e]
        simp only [ifM, t2, e2, cst, view_eq, viewAt_cons, viewAt_nil, List.contains_cons, List.contains_nil, Nat.reduceBEq, Bool.or_true, Bool.or_false, if_true, Option.map_some, see_val, rd_0, M.ret_bind, M.bind_assoc]
        rw [bx0 hp]
        simp only [eqD_int, asB_bl, M.ret_bind, decide_eq_true h0, if_true]
        refine seq_app (ρ' := [some (.val (.bag p)), some (.val (.int m)), none, none, some (.val (.int 0)), none, none]) (b' := some g) (by rfl) |>.trans ?_
        refine seq_app ?_
        walk_at "ev"
        rw [bx2 hp, bx3 hp]
        walk_at "ev"
        simp only [List.length_map, decide_eq_true hc, if_true]
        rw [bx3 hp, bx2 hp, ixD_lst hc2]
        rfl
      · obtain ⟨s5, g', e, ho⟩ := take_cell (m := m) g hg (c := 0)
        refine ⟨some (.val (.int 0)), s5, g', ?_, ho⟩
        unfold F__law_take
        refine seq_app ?_
        rw [← e]
        simp only [ifM, t2, e2, cst, view_eq, viewAt_cons, viewAt_nil, List.contains_cons, List.contains_nil, Nat.reduceBEq, Bool.or_true, Bool.or_false, if_true, Option.map_some, see_val, rd_0, M.ret_bind, M.bind_assoc]
        rw [bx0 hp]
        simp only [eqD_int, asB_bl, M.ret_bind, decide_eq_true h0, if_true]
        refine seq_app (ρ' := [some (.val (.bag p)), some (.val (.int m)), none, none, some (.val (.int 0)), none, none]) (b' := some g) (by rfl) |>.trans ?_
        refine seq_app ?_
        walk_at "ev"
        rw [bx2 hp, bx3 hp]
        walk_at "ev"
        simp only [List.length_map, decide_eq_false hc, if_false, Bool.false_eq_true]
        rfl
    obtain ⟨s4, s5, g', e, ho⟩ := hh
    rw [bindF_app e]
    exact take_end h1 h2 g' ho
  · have e : F__law_take [some (.val (.bag p)), some (.val (.int m)), none, none, none, none, none] (some g) = takeTail [some (.val (.bag p)), some (.val (.int m)), none, none, none, none, none] (some g) := by
      unfold F__law_take
      refine seq_app ?_
      walk_at "ev"
      rw [bx0 hp]
      walk_at "ev"
      simp only [decide_eq_false h0, if_false, Bool.false_eq_true]
      rfl
    rw [bindF_app e]
    exact take_end h1 h2 g hg
theorem alike_same {d : D} (h : okA d = true) : R__law_alike [d, d] = M.ret (.bl true) := by
  obtain ⟨x, hx⟩ := reprF_ok h
  simp only [R__law_alike, F__law_alike]
  walk_at "ev"
  rw [eqD_same h]
  walk_at "ev"
  rw [hx]
  walk_at "ev"
  simp only [decide_true]
def turnL (t : List Nat) (p : Int) : List Nat := (List.range t.length).map fun (k : Nat) => t.getD (((k : Int) - p) % (t.length : Int)).toNat 0
theorem turnL_len (t : List Nat) (p : Int) : (turnL t p).length = t.length := by simp [turnL]
theorem emod_turn {n : Nat} {k : Nat} {p : Int} (hk : k < n) : ((k : Int) - p) % (n : Int) = if (k : Int) < p % n then (k : Int) - p % n + n else (k : Int) - p % n := by
  have hn : (0 : Int) < n := by omega
  have h1 := Int.emod_nonneg p (by omega : (n : Int) ≠ 0)
  have h2 := Int.emod_lt_of_pos p hn
  have e : ((k : Int) - p) % n = ((k : Int) - p % n) % n := by rw [Int.sub_emod, Int.sub_emod (k : Int) (p % n), Int.emod_emod]
  rw [e]
  by_cases h : (k : Int) < p % n
  · rw [if_pos h, ← Int.add_emod_right]
    exact Int.emod_eq_of_lt (by omega) (by omega)
  · rw [if_neg h]
    exact Int.emod_eq_of_lt (by omega) (by omega)
theorem turn_cut (t : List Nat) (p : Int) (h : t ≠ []) : t.drop ((t.length : Int) - p % t.length).toNat ++ t.take ((t.length : Int) - p % t.length).toNat = turnL t p := by
  have hn : 0 < t.length := List.length_pos_iff.mpr h
  have h1 := Int.emod_nonneg p (by omega : (t.length : Int) ≠ 0)
  have h2 := Int.emod_lt_of_pos p (by omega : (0 : Int) < t.length)
  apply List.ext_getElem
  · simp [turnL]
    omega
  · intro k hk1 hk2
    have hk : k < t.length := by simpa [turnL] using hk2
    simp only [turnL, List.getElem_map, List.getElem_range]
    rw [emod_turn hk, List.getElem_append]
    by_cases hc : (k : Int) < p % t.length
    · rw [if_pos hc, dif_pos (by simp; omega), List.getElem_drop]
      have e : ((t.length : Int) - p % t.length).toNat + k = ((k : Int) - p % t.length + t.length).toNat := by omega
      rw [List.getD_eq_getElem?_getD, List.getElem?_eq_getElem (by omega)]
      simp only [e, Option.getD_some]
    · rw [if_neg hc, dif_neg (by simp; omega), List.getElem_take]
      have e : k - (t.drop ((t.length : Int) - p % t.length).toNat).length = ((k : Int) - p % t.length).toNat := by simp; omega
      rw [List.getD_eq_getElem?_getD, List.getElem?_eq_getElem (by omega)]
      simp only [e, Option.getD_some]
theorem turned_by_is (t : List Nat) (p : Int) (h : t ≠ []) (hz : t.length ≤ 1000) : R_turned_by [.str t, .int p] = M.ret (.str (turnL t p)) := by
  have hn : 0 < t.length := List.length_pos_iff.mpr h
  have hn' : (0 : Int) < (t.length : Int) := by omega
  have h1 := Int.emod_nonneg p (by omega : (t.length : Int) ≠ 0)
  have h2 := Int.emod_lt_of_pos p (by omega : (0 : Int) < t.length)
  have hs : t.length ≤ 16777216 := by omega
  simp only [R_turned_by, F_turned_by]
  walk_at "evs"
  rw [cut_from _ (by omega), cut_to _ (by omega), addD_str (by simp; omega), turn_cut t p h]
  walk_at "ev"
theorem turned_law (t : List Nat) (p : Int) (h : t ≠ []) (hz : t.length ≤ 1000) : R__law_turned [.str t, .int p] = M.ret (.str (turnL t p)) := by
  have hn : 0 < t.length := List.length_pos_iff.mpr h
  have hn' : (0 : Int) < (t.length : Int) := by omega
  simp only [R__law_turned, F__law_turned]
  walk_at "ev"
  rw [lenF_str (by omega)]
  walk_at "ev"
  rw [rng1_int (by omega) (by omega)]
  walk_at "ev"
  rw [compM_mapI (l := fun (k : Nat) => [(2, D.int (0 + (k : Nat)))]) (y := fun (k : Nat) => D.str [t.getD (((k : Int) - p) % (t.length : Int)).toNat 0]) (fun k hk => ⟨rfl, rfl, ?_⟩)]
  · walk_at "ev"
    rw [szL_ok (by simp; omega)]
    walk_at "ev"
    rw [joinF_one (by simp; omega)]
    walk_at "ev"
    simp only [Int.toNat_natCast, turnL]
  · simp only [wipeD, setAllD]
    walk_at "ev"
    rw [lenF_str (by omega)]
    walk_at "ev"
    rw [modD_int hn']
    walk_at "ev"
    rw [ixD_str (by omega) (Int.emod_nonneg _ (by omega)) (Int.emod_lt_of_pos _ hn'), Int.zero_add]
theorem pick_tot {p : Addr} {xs : List D} (h : xs ≠ []) (hz : xs.length < 1000) : Tot p (R__law_pick [.bag p, .lst xs]) (· ∈ xs) := by
  have hn : 0 < xs.length := List.length_pos_iff.mpr h
  simp only [R__law_pick, F__law_pick]
  walk_at "ev"
  refine (take_tot (m := xs.length) (by omega) (by omega)).bind ?_
  rintro d ⟨v, rfl, h0, h1⟩
  have hl : v.toNat < xs.length := by omega
  rw [ixD_lst (d := xs[v.toNat]) (by rw [atI_lt h0 h1, List.getElem?_eq_getElem hl])]
  walk_at "ev"
  exact Tot.ret (List.getElem_mem hl)
def okT (x : List Nat) : Prop := ∀ c ∈ x, c < 52
theorem text_tot {p : Addr} {r m : Int} (h0 : 0 ≤ r) (h1 : r ≤ 2) (h2 : 1 ≤ m) (h3 : m ≤ 1000) : Tot p (R__law_text [.bag p, .int r, .int m]) fun d => ∃ x, d = .str x ∧ 1 ≤ x.length ∧ (x.length : Int) ≤ m ∧ okT x := by
  have hsl : cutL [48, 49, 50, 51] none (some (r + 2)) = [48, 49, 50, 51].take (r + 2).toNat := cut_to _ (by omega)
  obtain ⟨sg, hsg, hsl1, hsl2⟩ : ∃ sg, [48, 49, 50, 51].take (r + 2).toNat = sg ∧ 1 ≤ sg.length ∧ sg.length ≤ 4 ∧ ∀ c ∈ sg, c < 52 := by
    refine ⟨_, rfl, ?_, ?_, ?_⟩
    · simp; omega
    · simp; omega
    · intro c hc
      have := List.mem_of_mem_take hc
      simp at this
      omega
  obtain ⟨hsl3, hsl4⟩ := hsl2
  simp only [R__law_text, F__law_text]
  walk_at "ev"
  rw [slD_str (by decide)]
  walk_at "ev"
  rw [hsl, hsg]
  refine (take_tot (by omega) (by omega)).bind ?_
  rintro d ⟨v, rfl, v0, v1⟩
  walk_at "ev"
  rw [rng1_int (by omega) (by omega)]
  walk_at "ev"
  refine (compM_tot (P := fun d => ∃ c, d = .str [c] ∧ c < 52) ?_).bind ?_
  · intro x hx
    refine ⟨[(4, x)], rfl, rfl, ?_⟩
    simp only [wipeD, setAllD]
    walk_at "ev"
    rw [lenF_str (by omega)]
    walk_at "ev"
    refine (take_tot (by omega) (by omega)).bind ?_
    rintro d ⟨u, rfl, u0, u1⟩
    rw [ixD_str (by omega) u0 u1]
    have hl : u.toNat < sg.length := by omega
    refine Tot.ret ⟨_, rfl, ?_⟩
    rw [List.getD_eq_getElem?_getD, List.getElem?_eq_getElem hl]
    exact hsl4 _ (List.getElem_mem hl)
  · rintro ys ⟨hl, hy⟩
    have hl' : ys.length = (1 + v).toNat := by simpa using hl
    obtain ⟨cs, rfl, hc⟩ : ∃ cs : List Nat, ys = cs.map (fun c => D.str [c]) ∧ ∀ c ∈ cs, c < 52 := by
      clear hl hl'
      induction ys with
      | nil => exact ⟨[], rfl, fun _ h => nomatch h⟩
      | cons y ys ih =>
        obtain ⟨c, rfl, hc⟩ := hy y (by simp)
        obtain ⟨cs, rfl, hcs⟩ := ih fun z hz => hy z (by simp [hz])
        exact ⟨c :: cs, rfl, fun z hz => by
          rcases List.mem_cons.mp hz with rfl | hz
          · exact hc
          · exact hcs z hz⟩
    rw [List.length_map] at hl'
    rw [szL_ok (by simp; omega)]
    walk_at "ev"
    rw [joinF_one (f := fun c => c) (by omega)]
    walk_at "ev"
    exact Tot.ret ⟨cs, by simp, by omega, by omega, hc⟩
def betw (t o : List Nat) : List D := ((List.range t.length).filter fun (k : Nat) => decide (turnL t (0 + (k : Nat)) = o)).map fun (k : Nat) => D.int (0 + (k : Nat))
theorem betw_len (t o : List Nat) : (betw t o).length ≤ t.length := by
  unfold betw
  rw [List.length_map]
  exact Nat.le_trans (List.length_filter_le _ _) (by simp)
theorem turns_between_is (t o : List Nat) (h : t ≠ []) (hz : t.length ≤ 1000) : R_turns_between [.str t, .str o] = M.ret (betw t o) := by
  simp only [R_turns_between, F_turns_between]
  walk_at "ev"
  rw [lenF_str (by omega)]
  walk_at "ev"
  rw [rng1_int (by omega) (by omega)]
  walk_at "ev"
  rw [compM_filterI (l := fun (k : Nat) => [(2, D.int (0 + (k : Nat)))]) (k := fun (k : Nat) => decide (turnL t (0 + (k : Nat)) = o)) (y := fun (k : Nat) => D.int (0 + (k : Nat))) (fun k hk => ⟨rfl, ?_, rfl⟩)]
  · walk_at "ev"
    rw [szL_ok (by have := betw_len t o; unfold betw at this; simpa using Nat.le_trans this (by omega))]
    walk_at "ev"
    simp only [Int.toNat_natCast]
    rfl
  · simp only [wipeD, setAllD]
    walk_at "ev"
    rw [turned_by_is t _ h hz]
    walk_at "ev"
def winL (t : List Nat) (s r : Int) : List Nat := (List.range (r + 1 - -r).toNat).map fun (k : Nat) => t.getD ((s + (-r + (k : Nat))) % (t.length : Int)).toNat 0
theorem window_at_is (t : List Nat) (s r : Int) (h : t ≠ []) (hz : t.length ≤ 1000) (r0 : 0 ≤ r) (r1 : r ≤ 1000) : R_window_at [.str t, .int s, .int r] = M.ret (.str (winL t s r)) := by
  have hn : 0 < t.length := List.length_pos_iff.mpr h
  have hn' : (0 : Int) < (t.length : Int) := by omega
  simp only [R_window_at, F_window_at]
  walk_at "ev"
  rw [rng2_int (by omega) (by omega) (by omega) (by omega)]
  walk_at "ev"
  rw [compM_mapI (l := fun (k : Nat) => [(3, D.int (-r + (k : Nat)))]) (y := fun (k : Nat) => D.str [t.getD ((s + (-r + (k : Nat))) % (t.length : Int)).toNat 0]) (fun k hk => ⟨rfl, rfl, ?_⟩)]
  · walk_at "ev"
    rw [szL_ok (by simp; omega)]
    walk_at "ev"
    rw [joinF_one (by simp; omega)]
    walk_at "ev"
    rfl
  · simp only [wipeD, setAllD]
    walk_at "ev"
    rw [lenF_str (by omega)]
    walk_at "ev"
    rw [modD_int hn']
    walk_at "ev"
    rw [ixD_str (by omega) (Int.emod_nonneg _ (by omega)) (Int.emod_lt_of_pos _ hn')]
theorem okd_str {x : List Nat} (h : okT x) (hz : x.length ≤ 1000) : Okd 0 20000 (.str x) :=
  (Okd.str (by rw [List.all_eq_true]; intro c hc; have := h c hc; exact decide_eq_true (by omega))).mono (Nat.le_refl _) (by omega)
theorem okT_getD {t : List Nat} (h : okT t) (i : Nat) : t.getD i 0 < 52 := by
  rw [List.getD_eq_getElem?_getD]
  cases e : t[i]? with
  | none => simp
  | some c => exact h c (List.mem_of_getElem? e)
theorem okT_turn {t : List Nat} (h : okT t) (p : Int) : okT (turnL t p) := by
  intro c hc
  unfold turnL at hc
  obtain ⟨k, _, rfl⟩ := List.mem_map.mp hc
  exact okT_getD h _
theorem okT_win {t : List Nat} (h : okT t) (s r : Int) : okT (winL t s r) := by
  intro c hc
  unfold winL at hc
  obtain ⟨k, _, rfl⟩ := List.mem_map.mp hc
  exact okT_getD h _
theorem okA_betw {t o : List Nat} (hz : t.length ≤ 1000) : okA (.lst (betw t o)) = true := by
  refine (Okd.lst (k := 0) (w := 13) fun d hd => ?_).ok (by decide) ?_
  · unfold betw at hd
    obtain ⟨k, hk, rfl⟩ := List.mem_map.mp hd
    have := List.mem_range.mp (List.mem_filter.mp hk).1
    exact Okd.int (by omega)
  · have := betw_len t o
    show _ ≤ 16777216
    omega
def Iv (p : Addr) (ρ : Env2) : Prop := ∃ s2 s3 s4 s5 s6 s7 s8 s9 s10 s11 s12 s13 s14, ρ = [none, some (.val (.bag p)), s2, s3, s4, s5, s6, s7, s8, s9, s10, s11, s12, s13, s14]
theorem math : ∀ (p : Addr), Tot p (F_law (env0 13 p)) fun o => o = .rt (.bl true) := by
  intro p
  unfold F_law
  refine tot_seq (A := Iv p) (tot_forR (xs := (List.range 8).map fun k => .int (0 + (k : Nat))) ?_ ?_ ⟨_, _, _, _, _, _, _, _, _, _, _, _, _, rfl⟩) fun ρ' _ => tot_ret (Tot.ret rfl)
  · walk_at "ev"
    rw [rng1_int (by decide) (by decide)]
    rfl
  · rintro x hx ρ ⟨s2, s3, s4, s5, s6, s7, s8, s9, s10, s11, s12, s13, s14, rfl⟩
    refine ⟨[(2, x)], rfl, ?_⟩
    walk_at "env"
    refine tot_set (P := fun d => ∃ v, d = .int v ∧ 0 ≤ v ∧ v < 3) ?_ ?_
    · walk_at "ev"
      exact take_tot (by decide) (by decide)
    · rintro d ⟨r, rfl, r0, r3⟩
      walk_at "env"
      refine tot_set (P := fun d => ∃ t, d = .str t ∧ 1 ≤ t.length ∧ t.length ≤ 40 ∧ okT t) ?_ ?_
      · walk_at "ev"
        rw [szL_ok (by decide)]
        walk_at "ev"
        refine (take_tot (by decide) (by decide)).bind ?_
        rintro d ⟨v, rfl, v0, v4⟩
        obtain ⟨m, hm, m1, m2⟩ : ∃ m, atI [D.int 5, D.int 5, D.int 5, D.int 20] v = some (.int m) ∧ 1 ≤ m ∧ m ≤ 20 := by
          have : v = 0 ∨ v = 1 ∨ v = 2 ∨ v = 3 := by omega
          rcases this with rfl | rfl | rfl | rfl
          · exact ⟨5, rfl, by decide, by decide⟩
          · exact ⟨5, rfl, by decide, by decide⟩
          · exact ⟨5, rfl, by decide, by decide⟩
          · exact ⟨20, rfl, by decide, by decide⟩
        rw [ixD_lst hm]
        walk_at "ev"
        refine (text_tot r0 (by omega) m1 (by omega)).bind ?_
        rintro d ⟨y, rfl, y1, y2, yk⟩
        refine (take_tot (by decide) (by decide)).bind ?_
        rintro d ⟨u, rfl, u0, u2⟩
        walk_at "ev"
        have hrl : (repL y (1 + u).toNat).length = y.length * (1 + u).toNat := by simp [repL, Nat.mul_comm]
        have hun : (1 + u).toNat = 1 ∨ (1 + u).toNat = 2 := by omega
        rw [mulD_str (by
          unfold okRep
          rw [Bool.and_eq_true, Bool.and_eq_true]
          refine ⟨⟨decide_eq_true (by omega), decide_eq_true (by omega)⟩, decide_eq_true ?_⟩
          show _ ≤ 16777216
          rcases hun with e | e <;> rw [e] <;> omega)]
        refine Tot.ret ⟨_, rfl, ?_, ?_, ?_⟩
        · rw [hrl]; rcases hun with e | e <;> rw [e] <;> omega
        · rw [hrl]; rcases hun with e | e <;> rw [e] <;> omega
        · intro c hc
          unfold repL at hc
          obtain ⟨l, hl, hc⟩ := List.mem_flatten.mp hc
          rw [List.eq_of_mem_replicate hl] at hc
          exact yk c hc
      · rintro d ⟨t, rfl, t1, t40, tk⟩
        have tne : t ≠ [] := by intro z; rw [z] at t1; simp at t1
        walk_at "env"
        refine tot_setN (P := fun xs => ∃ a b c e : List Nat, xs = [.str a, .str b, .str c, .str e, .str t]) ?_ ?_
        · walk_at "ev"
          refine (take_tot (by decide) (by decide)).bind ?_
          rintro d ⟨v, rfl, v0, v4⟩
          walk_at "ev"
          rw [turned_law t v tne (by omega)]
          walk_at "ev"
          rw [revD_str (by omega)]
          walk_at "ev"
          refine (text_tot r0 (by omega) (by decide) (by decide)).bind ?_
          rintro d ⟨y, rfl, y1, y2, yk⟩
          rw [addD_str (by omega)]
          walk_at "ev"
          rw [slD_str (by simp; omega)]
          walk_at "ev"
          rw [szL_ok (by simp)]
          exact Tot.ret ⟨_, _, _, _, rfl⟩
        · rintro xs ⟨a, b, c, e, rfl⟩
          walk_at "env"
          refine tot_set (P := fun d => ∃ o : List Nat, d = .str o) ?_ ?_
          · walk_at "ev"
            have hz1 : (cutL t none (some (-1))).length ≤ t.length := by
              unfold cutL
              simp
              omega
            rw [slD_str (by omega)]
            walk_at "ev"
            rw [addD_str (by simp; omega)]
            walk_at "ev"
            rw [szL_ok (by simp)]
            walk_at "ev"
            rw [addD_lst (by simp)]
            walk_at "ev"
            refine (pick_tot (by simp) (by simp)).mono fun d hd => ?_
            simp at hd
            rcases hd with rfl | rfl | rfl | rfl | rfl | rfl <;> exact ⟨_, rfl⟩
          · rintro d ⟨o, rfl⟩
            walk_at "env"
            refine tot_setN (P := fun xs => xs = betw t o) ?_ ?_
            · walk_at "ev"
              rw [lenF_str (by omega)]
              walk_at "ev"
              rw [rng1_int (by omega) (by omega)]
              walk_at "ev"
              rw [compM_filterI (l := fun (k : Nat) => [(13, D.int (0 + (k : Nat)))]) (k := fun (k : Nat) => decide (turnL t (0 + (k : Nat)) = o)) (y := fun (k : Nat) => D.int (0 + (k : Nat))) (fun k hk => ⟨rfl, ?_, rfl⟩)]
              · walk_at "ev"
                rw [szL_ok (by have := betw_len t o; unfold betw at this; simpa using Nat.le_trans this (by omega))]
                exact Tot.ret (by simp only [Int.toNat_natCast]; rfl)
              · simp only [wipeD, setAllD]
                walk_at "ev"
                rw [turned_law t _ tne (by omega)]
                walk_at "ev"
            · rintro xs rfl
              have hfl : (betw t o).all D.flat = true := by
                rw [List.all_eq_true]
                intro d hd
                unfold betw at hd
                obtain ⟨k, hk, rfl⟩ := List.mem_map.mp hd
                rfl
              rw [hfl]
              walk_at "env"
              refine tot_seq (A := fun ρ => ∃ s8 s10, ρ = [none, some (.val (.bag p)), some (.val x), some (.val (.int r)), some (.val (.str t)), some (.own [.str a, .str b, .str c, .str e, .str t]), some (.val (.str o)), some (.own (betw t o)), s8, s9, s10, s11, s12, s13, s14]) (tot_forR (xs := (List.range 2).map fun k => .int (0 + (k : Nat))) ?_ ?_ ⟨_, _, rfl⟩) ?_
              · walk_at "ev"
                rw [rng1_int (by decide) (by decide)]
                rfl
              · rintro x2 hx2 ρ ⟨s8', s10', rfl⟩
                refine ⟨[(8, x2)], rfl, ?_⟩
                walk_at "env"
                refine tot_setN (P := fun xs => xs = betw t o) ?_ ?_
                · walk_at "ev"
                  exact Tot.of_ret (turns_between_is t o tne (by omega)) rfl
                · rintro xs rfl
                  rw [hfl]
                  walk_at "env"
                  refine tot_ifN ?_ ?_
                  · walk_at "ev"
                    rw [alike_same (okA_betw (by omega))]
                    walk_at "ev"
                    exact Tot.ret rfl
                  · refine tot_skip (tot_app (d := .non) rfl rfl (by have := betw_len t o; omega) ?_)
                    exact ⟨_, _, rfl⟩
              · rintro ρ ⟨s8', s10', rfl⟩
                refine tot_unp (P := fun d => ∃ u v : Int, d = .tup [.int u, .int v] ∧ 0 ≤ u ∧ u < t.length ∧ 0 ≤ v ∧ v < 20) ?_ ?_
                · walk_at "ev"
                  rw [lenF_str (by omega)]
                  walk_at "ev"
                  refine (take_tot (m := t.length) (by omega) (by omega)).bind ?_
                  rintro d ⟨u, rfl, u0, u1⟩
                  rw [szL_ok (by simp)]
                  walk_at "ev"
                  refine (take_tot (by decide) (by decide)).bind ?_
                  rintro d ⟨z, rfl, z0, z1⟩
                  obtain ⟨m, hm, m1, m2⟩ : ∃ m, atI [D.int 4, D.int 20] z = some (.int m) ∧ 1 ≤ m ∧ m ≤ 20 := by
                    have : z = 0 ∨ z = 1 := by omega
                    rcases this with rfl | rfl
                    · exact ⟨4, rfl, by decide, by decide⟩
                    · exact ⟨20, rfl, by decide, by decide⟩
                  rw [ixD_lst hm]
                  walk_at "ev"
                  refine (take_tot m1 (by omega)).bind ?_
                  rintro d ⟨v, rfl, v0, v1⟩
                  walk_at "ev"
                  rw [szL_ok (by simp)]
                  exact Tot.ret ⟨u, v, rfl, u0, u1, v0, by omega⟩
                · rintro d ⟨u, v, rfl, u0, u1, v0, v1⟩
                  refine ⟨[(11, .int u), (12, .int v)], rfl, ?_⟩
                  walk_at "env"
                  refine tot_set (P := fun d => d = .str (winL t u v)) ?_ ?_
                  · walk_at "ev"
                    rw [rng2_int (by omega) (by omega) (by omega) (by omega)]
                    walk_at "ev"
                    have hn' : (0 : Int) < (t.length : Int) := by omega
                    rw [compM_mapI (l := fun (k : Nat) => [(14, D.int (0 - v + (k : Nat)))]) (y := fun (k : Nat) => D.str [t.getD ((u + (-v + (k : Nat))) % (t.length : Int)).toNat 0]) (fun k hk => ⟨rfl, rfl, ?_⟩)]
                    · walk_at "ev"
                      rw [szL_ok (by simp; omega)]
                      walk_at "ev"
                      rw [joinF_one (by simp; omega)]
                      exact Tot.ret (by unfold winL; rw [Int.zero_sub])
                    · simp only [wipeD, setAllD]
                      walk_at "ev"
                      rw [lenF_str (by omega)]
                      walk_at "ev"
                      rw [modD_int hn']
                      walk_at "ev"
                      rw [ixD_str (by omega) (Int.emod_nonneg _ (by omega)) (Int.emod_lt_of_pos _ hn'), Int.zero_sub]
                  · rintro d rfl
                    walk_at "env"
                    refine tot_ifL ?_ (tot_nx ⟨_, _, _, _, _, _, _, _, _, _, _, _, _, rfl⟩)
                    walk_at "ev"
                    rw [window_at_is t u v tne (by omega) v0 (by omega), window_at_is t u 0 tne (by omega) (by decide) (by decide)]
                    walk_at "ev"
                    have e0 : winL t u 0 = [t.getD u.toNat 0] := by
                      unfold winL
                      simp
                      rw [Int.emod_eq_of_lt u0 u1]
                    rw [ixD_str (by omega) u0 u1, e0]
                    walk_at "ev"
                    rw [szL_ok (by simp)]
                    walk_at "ev"
                    have hok : okA (.lst [.str (winL t u v), .str [t.getD u.toNat 0]]) = true := by
                      refine (Okd.lst (k := 0) (w := 20000) fun d hd => ?_).ok (by decide) (by show _ ≤ 16777216; simp)
                      simp at hd
                      rcases hd with rfl | rfl
                      · refine okd_str (okT_win tk u v) ?_
                        unfold winL
                        simp
                        omega
                      · exact okd_str (fun c hc => by simp at hc; subst hc; exact okT_getD tk _) (by simp)
                    rw [alike_same hok]
                    walk_at "ev"
                    exact Tot.ret rfl
end LW
set_option Elab.async false
set_option maxRecDepth 100000
set_option autoImplicit false
set_option linter.unusedVariables false
set_option maxHeartbeats 4000000
namespace LW
open PySem L2 PySem.Spec PyProof.Rows DL
theorem all_mk {l : PySem.W.OpenLaw} {w : World} {K : PySem.W.Frag} {h : Heap} {mg : Str → Option Value} {fa : Addr} (X : K.In h) (G : h.Ns mainGlobals mg) (hfa : mg "law" = some (.ref fa))
    {f0 : Addr} {od0 an0 : Option Addr} {sl0 : Array (Option Value)} {oc0 kV0 dc0 pm0 cd0 ct0 : Value}
    {f1 : Addr} {od1 an1 : Option Addr} {sl1 : Array (Option Value)} {oc1 kV1 dc1 pm1 cd1 ct1 : Value}
    {f2 : Addr} {od2 an2 : Option Addr} {sl2 : Array (Option Value)} {oc2 kV2 dc2 pm2 cd2 ct2 : Value}
    {f3 : Addr} {od3 an3 : Option Addr} {sl3 : Array (Option Value)} {oc3 kV3 dc3 pm3 cd3 ct3 : Value}
    {f4 : Addr} {od4 an4 : Option Addr} {sl4 : Array (Option Value)} {oc4 kV4 dc4 pm4 cd4 ct4 : Value}
    {f5 : Addr} {od5 an5 : Option Addr} {sl5 : Array (Option Value)} {oc5 kV5 dc5 pm5 cd5 ct5 : Value}
    {f6 : Addr} {od6 an6 : Option Addr} {sl6 : Array (Option Value)} {oc6 kV6 dc6 pm6 cd6 ct6 : Value}
    {f7 : Addr} {od7 an7 : Option Addr} {sl7 : Array (Option Value)} {oc7 kV7 dc7 pm7 cd7 ct7 : Value}
    {f8 : Addr} {od8 an8 : Option Addr} {sl8 : Array (Option Value)} {oc8 kV8 dc8 pm8 cd8 ct8 : Value}
    {f9 : Addr} {od9 an9 : Option Addr} {sl9 : Array (Option Value)} {oc9 kV9 dc9 pm9 cd9 ct9 : Value}
    (a0 : PySem.W.nsIn K mainGlobals "_law_bag" = some (some (.ref f0))) (l0 : K.lookup f0 = some ⟨oc0, od0, .func (PySem.W.fnOf "_law_bag" "_law_bag" (defArgs s__law_bag) (defBody s__law_bag) (defScope s__law_bag) .none kV0 dc0 pm0 an0 cd0 ct0), sl0⟩) (c0 : PySem.W.codeIn K cd0 "_law_bag" = true) (k0 : PySem.W.keepIn K (.ref f0) = true)
    (a1 : PySem.W.nsIn K mainGlobals "_law_take" = some (some (.ref f1))) (l1 : K.lookup f1 = some ⟨oc1, od1, .func (PySem.W.fnOf "_law_take" "_law_take" (defArgs s__law_take) (defBody s__law_take) (defScope s__law_take) .none kV1 dc1 pm1 an1 cd1 ct1), sl1⟩) (c1 : PySem.W.codeIn K cd1 "_law_take" = true) (k1 : PySem.W.keepIn K (.ref f1) = true)
    (a2 : PySem.W.nsIn K mainGlobals "_law_pick" = some (some (.ref f2))) (l2 : K.lookup f2 = some ⟨oc2, od2, .func (PySem.W.fnOf "_law_pick" "_law_pick" (defArgs s__law_pick) (defBody s__law_pick) (defScope s__law_pick) .none kV2 dc2 pm2 an2 cd2 ct2), sl2⟩) (c2 : PySem.W.codeIn K cd2 "_law_pick" = true) (k2 : PySem.W.keepIn K (.ref f2) = true)
    (a3 : PySem.W.nsIn K mainGlobals "_law_text" = some (some (.ref f3))) (l3 : K.lookup f3 = some ⟨oc3, od3, .func (PySem.W.fnOf "_law_text" "_law_text" (defArgs s__law_text) (defBody s__law_text) (defScope s__law_text) .none kV3 dc3 pm3 an3 cd3 ct3), sl3⟩) (c3 : PySem.W.codeIn K cd3 "_law_text" = true) (k3 : PySem.W.keepIn K (.ref f3) = true)
    (a4 : PySem.W.nsIn K mainGlobals "_law_turned" = some (some (.ref f4))) (l4 : K.lookup f4 = some ⟨oc4, od4, .func (PySem.W.fnOf "_law_turned" "_law_turned" (defArgs s__law_turned) (defBody s__law_turned) (defScope s__law_turned) .none kV4 dc4 pm4 an4 cd4 ct4), sl4⟩) (c4 : PySem.W.codeIn K cd4 "_law_turned" = true) (k4 : PySem.W.keepIn K (.ref f4) = true)
    (a5 : PySem.W.nsIn K mainGlobals "turned_by" = some (some (.ref f5))) (l5 : K.lookup f5 = some ⟨oc5, od5, .func (PySem.W.fnOf "turned_by" "turned_by" (defArgs s_turned_by) (defBody s_turned_by) (defScope s_turned_by) .none kV5 dc5 pm5 an5 cd5 ct5), sl5⟩) (c5 : PySem.W.codeIn K cd5 "turned_by" = true) (k5 : PySem.W.keepIn K (.ref f5) = true)
    (a6 : PySem.W.nsIn K mainGlobals "turns_between" = some (some (.ref f6))) (l6 : K.lookup f6 = some ⟨oc6, od6, .func (PySem.W.fnOf "turns_between" "turns_between" (defArgs s_turns_between) (defBody s_turns_between) (defScope s_turns_between) .none kV6 dc6 pm6 an6 cd6 ct6), sl6⟩) (c6 : PySem.W.codeIn K cd6 "turns_between" = true) (k6 : PySem.W.keepIn K (.ref f6) = true)
    (a7 : PySem.W.nsIn K mainGlobals "_law_alike" = some (some (.ref f7))) (l7 : K.lookup f7 = some ⟨oc7, od7, .func (PySem.W.fnOf "_law_alike" "_law_alike" (defArgs s__law_alike) (defBody s__law_alike) (defScope s__law_alike) .none kV7 dc7 pm7 an7 cd7 ct7), sl7⟩) (c7 : PySem.W.codeIn K cd7 "_law_alike" = true) (k7 : PySem.W.keepIn K (.ref f7) = true)
    (a8 : PySem.W.nsIn K mainGlobals "window_at" = some (some (.ref f8))) (l8 : K.lookup f8 = some ⟨oc8, od8, .func (PySem.W.fnOf "window_at" "window_at" (defArgs s_window_at) (defBody s_window_at) (defScope s_window_at) .none kV8 dc8 pm8 an8 cd8 ct8), sl8⟩) (c8 : PySem.W.codeIn K cd8 "window_at" = true) (k8 : PySem.W.keepIn K (.ref f8) = true)
    (a9 : PySem.W.nsIn K mainGlobals "law" = some (some (.ref f9))) (l9 : K.lookup f9 = some ⟨oc9, od9, .func (PySem.W.fnOf "law" "law" (defArgs s_law) (defBody s_law) (defScope s_law) .none kV9 dc9 pm9 an9 cd9 ct9), sl9⟩) (c9 : PySem.W.codeIn K cd9 "law" = true) (k9 : PySem.W.keepIn K (.ref f9) = true)
    (z_abs : PySem.W.nsIn K mainGlobals "abs" = some none)
    (z_int : PySem.W.nsIn K mainGlobals "int" = some none)
    (z_len : PySem.W.nsIn K mainGlobals "len" = some none)
    (z_range : PySem.W.nsIn K mainGlobals "range" = some none)
    (z_repr : PySem.W.nsIn K mainGlobals "repr" = some none)
    : ∃ fd : FuncData, (∀ (s : Shared) (u : Value), BindsTo s fd ⟨[u], []⟩ [("_law_script", u)]) ∧ ∀ base : Heap, K.In base → base.Ns mainGlobals mg → FnG l.prog w K mg base 3 fa fd ["_law_script"] (spLaw K) := by
  have e := (Value.ref.inj (Option.some.inj (hfa.symm.trans (PySem.W.mg_of X G a9)))).symm
  subst e
  have T : Txt K mg ⟨f0, PySem.W.fnOf "_law_bag" "_law_bag" (defArgs s__law_bag) (defBody s__law_bag) (defScope s__law_bag) .none kV0 dc0 pm0 an0 cd0 ct0, f1, PySem.W.fnOf "_law_take" "_law_take" (defArgs s__law_take) (defBody s__law_take) (defScope s__law_take) .none kV1 dc1 pm1 an1 cd1 ct1, f2, PySem.W.fnOf "_law_pick" "_law_pick" (defArgs s__law_pick) (defBody s__law_pick) (defScope s__law_pick) .none kV2 dc2 pm2 an2 cd2 ct2, f3, PySem.W.fnOf "_law_text" "_law_text" (defArgs s__law_text) (defBody s__law_text) (defScope s__law_text) .none kV3 dc3 pm3 an3 cd3 ct3, f4, PySem.W.fnOf "_law_turned" "_law_turned" (defArgs s__law_turned) (defBody s__law_turned) (defScope s__law_turned) .none kV4 dc4 pm4 an4 cd4 ct4, f5, PySem.W.fnOf "turned_by" "turned_by" (defArgs s_turned_by) (defBody s_turned_by) (defScope s_turned_by) .none kV5 dc5 pm5 an5 cd5 ct5, f6, PySem.W.fnOf "turns_between" "turns_between" (defArgs s_turns_between) (defBody s_turns_between) (defScope s_turns_between) .none kV6 dc6 pm6 an6 cd6 ct6, f7, PySem.W.fnOf "_law_alike" "_law_alike" (defArgs s__law_alike) (defBody s__law_alike) (defScope s__law_alike) .none kV7 dc7 pm7 an7 cd7 ct7, f8, PySem.W.fnOf "window_at" "window_at" (defArgs s_window_at) (defBody s_window_at) (defScope s_window_at) .none kV8 dc8 pm8 an8 cd8 ct8, f9, PySem.W.fnOf "law" "law" (defArgs s_law) (defBody s_law) (defScope s_law) .none kV9 dc9 pm9 an9 cd9 ct9⟩ :=
    ⟨⟨fun_mk (st := s__law_bag) l0 c0 k0, (fun_mk (st := s__law_bag) l0 c0 k0).binds (ps := ["_law_script"]) fun _ _ _ _ _ _ us hl => match us, hl with | [_], _ => rfl, PySem.W.mg_of X G a0⟩,
    ⟨fun_mk (st := s__law_take) l1 c1 k1, (fun_mk (st := s__law_take) l1 c1 k1).binds (ps := ["_law_bag_here", "_law_many"]) fun _ _ _ _ _ _ us hl => match us, hl with | [_, _], _ => rfl, PySem.W.mg_of X G a1⟩,
    ⟨fun_mk (st := s__law_pick) l2 c2 k2, (fun_mk (st := s__law_pick) l2 c2 k2).binds (ps := ["_law_bag_here", "_law_things"]) fun _ _ _ _ _ _ us hl => match us, hl with | [_, _], _ => rfl, PySem.W.mg_of X G a2⟩,
    ⟨fun_mk (st := s__law_text) l3 c3 k3, (fun_mk (st := s__law_text) l3 c3 k3).binds (ps := ["_law_bag_here", "_law_rests", "_law_most"]) fun _ _ _ _ _ _ us hl => match us, hl with | [_, _, _], _ => rfl, PySem.W.mg_of X G a3⟩,
    ⟨fun_mk (st := s__law_turned) l4 c4 k4, (fun_mk (st := s__law_turned) l4 c4 k4).binds (ps := ["_law_text_here", "_law_places"]) fun _ _ _ _ _ _ us hl => match us, hl with | [_, _], _ => rfl, PySem.W.mg_of X G a4⟩,
    ⟨fun_mk (st := s_turned_by) l5 c5 k5, (fun_mk (st := s_turned_by) l5 c5 k5).binds (ps := ["text", "places"]) fun _ _ _ _ _ _ us hl => match us, hl with | [_, _], _ => rfl, PySem.W.mg_of X G a5⟩,
    ⟨fun_mk (st := s_turns_between) l6 c6 k6, (fun_mk (st := s_turns_between) l6 c6 k6).binds (ps := ["text", "other"]) fun _ _ _ _ _ _ us hl => match us, hl with | [_, _], _ => rfl, PySem.W.mg_of X G a6⟩,
    ⟨fun_mk (st := s__law_alike) l7 c7 k7, (fun_mk (st := s__law_alike) l7 c7 k7).binds (ps := ["_law_found", "_law_due"]) fun _ _ _ _ _ _ us hl => match us, hl with | [_, _], _ => rfl, PySem.W.mg_of X G a7⟩,
    ⟨fun_mk (st := s_window_at) l8 c8 k8, (fun_mk (st := s_window_at) l8 c8 k8).binds (ps := ["text", "seat", "reach"]) fun _ _ _ _ _ _ us hl => match us, hl with | [_, _, _], _ => rfl, PySem.W.mg_of X G a8⟩,
    ⟨fun_mk (st := s_law) l9 c9 k9, (fun_mk (st := s_law) l9 c9 k9).binds (ps := ["_law_script"]) fun _ _ _ _ _ _ us hl => match us, hl with | [_], _ => rfl, PySem.W.mg_of X G a9⟩,
    PySem.W.mg_none_of X G z_abs,
    PySem.W.mg_none_of X G z_int,
    PySem.W.mg_none_of X G z_len,
    PySem.W.mg_none_of X G z_range,
    PySem.W.mg_none_of X G z_repr⟩
  exact ⟨_, fun s v => .of_eq rfl, fun base _ _ => ok_law T math⟩
end LW
open PySem PySem.W PyProof.Rows
set_option maxRecDepth 100000 in
set_option maxHeartbeats 0 in
theorem PySem.Challenge.cw_standwaves_k21_places_and_windows_holds : PySem.Challenge.rw_standwaves_k21_places_and_windows.Holds := by
  w_on; o_law; k_head; (case hw => w_witness2)
  k_fill
  refine DL.walk_g (l := PySem.Challenge.rw_standwaves_k21_places_and_windows) (k := 3) (x := "_law_script") rfl rfl ⟨rfl, by decide, by decide⟩ (fun w h Y => PySem.W.kIn_of Y) ?F
  case F =>
    intro w mg fa h KX G hmg
    refine' LW.all_mk KX G hmg ?a0 ?l0 ?c0 ?k0 ?a1 ?l1 ?c1 ?k1 ?a2 ?l2 ?c2 ?k2 ?a3 ?l3 ?c3 ?k3 ?a4 ?l4 ?c4 ?k4 ?a5 ?l5 ?c5 ?k5 ?a6 ?l6 ?c6 ?k6 ?a7 ?l7 ?c7 ?k7 ?a8 ?l8 ?c8 ?k8 ?a9 ?l9 ?c9 ?k9 ?z_abs ?z_int ?z_len ?z_range ?z_repr
    (case a0 => k_is)
    (case l0 => k_is)
    (case c0 => k_is)
    (case k0 => k_is)
    (case a1 => k_is)
    (case l1 => k_is)
    (case c1 => k_is)
    (case k1 => k_is)
    (case a2 => k_is)
    (case l2 => k_is)
    (case c2 => k_is)
    (case k2 => k_is)
    (case a3 => k_is)
    (case l3 => k_is)
    (case c3 => k_is)
    (case k3 => k_is)
    (case a4 => k_is)
    (case l4 => k_is)
    (case c4 => k_is)
    (case k4 => k_is)
    (case a5 => k_is)
    (case l5 => k_is)
    (case c5 => k_is)
    (case k5 => k_is)
    (case a6 => k_is)
    (case l6 => k_is)
    (case c6 => k_is)
    (case k6 => k_is)
    (case a7 => k_is)
    (case l7 => k_is)
    (case c7 => k_is)
    (case k7 => k_is)
    (case a8 => k_is)
    (case l8 => k_is)
    (case c8 => k_is)
    (case k8 => k_is)
    (case a9 => k_is)
    (case l9 => k_is)
    (case c9 => k_is)
    (case k9 => k_is)
    (case z_abs => k_is)
    (case z_int => k_is)
    (case z_len => k_is)
    (case z_range => k_is)
    (case z_repr => k_is)
