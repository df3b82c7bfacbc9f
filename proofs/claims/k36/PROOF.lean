import PyProof.Rows.All
import Wide.All
import OpenK.AllK
import Wide.FinOn
import HandS.ForExc
import HandS.Iter
import HandS.Comp
import HandS.Wide
import HandS.WideBits
import HandS.IsInst
import HandS.Gcd
import HandS.Property
import HandS.OwnEq
import HandS.FStr
import HandS.Flow
import KE.KMathG
import HandS.Sort
import HandS.SortInts
import HandS.Deep
import HandS.TupLe
import KE.KOpsOwn
import HandS.Defaults
import HandS.SetFor
import HandS.Strs
import KE.SortData
import HandS.More
import HandS.Style
import HandS.TupAny
import HandS.Zip
import HandS.Conv
import HandS.Dict
import HandS.Head0
import HandS.Head1
import HandS.Head2
import HandS.HeadHook1
import HandS.HeadHook2
import HandS.Head3
import PySem.Challenge.RW_weighedrooms_k36_whole_lots_excesses_and
set_option Elab.async false
set_option linter.all false
set_option maxRecDepth 100000
/-! DL: a data layer over HandS. D: data; Rep: an abstract heap bears a datum; DE, DS: an expression, a statement computes a plain function. -/
namespace DL
open PySem PySem.Spec PyProof.Rows L2

/-- data, as trees -/
inductive D where
  | non | bl (b : Bool) | int (i : Int) | str (x : Str) | lst (l : List D) | tup (l : List D) | rat (t b : Int) | edict | pot | ty (n : String) | obj (a : Addr)

/-- what is fixed: the class Ratio's address, the pot's address -/
structure Kx where
  C : Addr
  pa : Addr

mutual
inductive Rep (k : Kx) (N : Addr → Prop) (H : Hp) : V → D → Prop
  | non : Rep k N H .non .non
  | bl (b : Bool) : Rep k N H (.bl b) (.bl b)
  | int (i : Int) : Rep k N H (.int i) (.int i)
  | str (x : Str) : Rep k N H (.str x) (.str x)
  | ty (n : String) : Rep k N H (.ty n) (.ty n)
  | lst {a : Addr} {xs : List V} {ds : List D} : N a → H a = some (.lst xs) → RepAll k N H xs ds → Rep k N H (.ref a) (.lst ds)
  | tup {a : Addr} {xs : List V} {ds : List D} : N a → H a = some (.tup xs) → RepAll k N H xs ds → Rep k N H (.ref a) (.tup ds)
  | rat {a dx : Addr} {t b : Int} : N a → H a = some (.ins k.C dx [("own_top", .int t), ("own_bottom", .int b)]) → Rep k N H (.ref a) (.rat t b)
  | edict {a : Addr} : N a → H a = some (.dK []) → Rep k N H (.ref a) .edict
  | pot : Rep k N H (.ref k.pa) .pot
  | obj (a : Addr) : Rep k N H (.ref a) (.obj a)
inductive RepAll (k : Kx) (N : Addr → Prop) (H : Hp) : List V → List D → Prop
  | nil : RepAll k N H [] []
  | cons {v : V} {vs : List V} {d : D} {ds : List D} : Rep k N H v d → RepAll k N H vs ds → RepAll k N H (v :: vs) (d :: ds)
end

variable {k : Kx} {N N' : Addr → Prop} {H H' H1 H2 : Hp}
mutual
theorem Rep.mono (hN : ∀ a, N a → H a ≠ none → N' a) (hH : ∀ a o, N a → H a = some o → H' a = some o) : ∀ (d : D) {v : V}, Rep k N H v d → Rep k N' H' v d
  | .non, _, h => by cases h; exact .non
  | .bl _, _, h => by cases h; exact .bl _
  | .int _, _, h => by cases h; exact .int _
  | .str _, _, h => by cases h; exact .str _
  | .ty _, _, h => by cases h; exact .ty _
  | .lst ds, _, h => by
    cases h with
    | lst n e r => exact .lst (hN _ n (by rw [e]; exact fun z => nomatch z)) (hH _ _ n e) (RepAll.mono hN hH ds r)
  | .tup ds, _, h => by
    cases h with
    | tup n e r => exact .tup (hN _ n (by rw [e]; exact fun z => nomatch z)) (hH _ _ n e) (RepAll.mono hN hH ds r)
  | .rat _ _, _, h => by
    cases h with
    | rat n e => exact .rat (hN _ n (by rw [e]; exact fun z => nomatch z)) (hH _ _ n e)
  | .edict, _, h => by
    cases h with
    | edict n e => exact .edict (hN _ n (by rw [e]; exact fun z => nomatch z)) (hH _ _ n e)
  | .pot, _, h => by cases h; exact .pot
  | .obj _, _, h => by cases h; exact .obj _
theorem RepAll.mono (hN : ∀ a, N a → H a ≠ none → N' a) (hH : ∀ a o, N a → H a = some o → H' a = some o) : ∀ (ds : List D) {vs : List V}, RepAll k N H vs ds → RepAll k N' H' vs ds
  | [], _, h => by cases h; exact .nil
  | d :: ds, _, h => by
    cases h with
    | cons r1 r2 => exact .cons (Rep.mono hN hH d r1) (RepAll.mono hN hH ds r2)
end
theorem Rep.weak {d : D} {v : V} (h : Rep k N H v d) (hN : ∀ a, N a → N' a) : Rep k N' H v d := Rep.mono (fun a n _ => hN a n) (fun _ _ _ e => e) d h
theorem RepAll.weak {d : List D} {v : List V} (h : RepAll k N H v d) (hN : ∀ a, N a → N' a) : RepAll k N' H v d := RepAll.mono (fun a n _ => hN a n) (fun _ _ _ e => e) d h
theorem Rep.keep {d : D} {v : V} (h : Rep k N H v d) (hH : ∀ a o, N a → H a = some o → H' a = some o) : Rep k N H' v d := Rep.mono (fun a n _ => n) hH d h
theorem RepAll.keep {d : List D} {v : List V} (h : RepAll k N H v d) (hH : ∀ a o, N a → H a = some o → H' a = some o) : RepAll k N H' v d := RepAll.mono (fun a n _ => n) hH d h
theorem RepAll.length {vs : List V} : ∀ {ds : List D}, RepAll k N H vs ds → vs.length = ds.length := fun {ds} => by
  induction vs generalizing ds with
  | nil => intro h; cases h; rfl
  | cons v vs ih => intro h; cases h with
    | cons _ r => simp [ih r]
theorem RepAll.get {vs : List V} : ∀ {ds : List D} {i : Nat} {d : D}, RepAll k N H vs ds → ds[i]? = some d → ∃ v, vs[i]? = some v ∧ Rep k N H v d := fun {ds i d} => by
  induction vs generalizing ds i with
  | nil => intro h e; cases h; simp at e
  | cons v vs ih =>
    intro h e
    cases h with
    | cons r rr =>
      cases i with
      | zero => simp at e; subst e; exact ⟨v, rfl, r⟩
      | succ i =>
        obtain ⟨w, h1, h2⟩ := ih rr (by simpa using e)
        exact ⟨w, by simpa using h1, h2⟩
theorem RepAll.getV {vs : List V} : ∀ {ds : List D} {i : Nat} {v : V}, RepAll k N H vs ds → vs[i]? = some v → ∃ d, ds[i]? = some d ∧ Rep k N H v d := fun {ds i v} => by
  induction vs generalizing ds i with
  | nil => intro h e; simp at e
  | cons w vs ih =>
    intro h e
    cases h with
    | cons r rr =>
      cases i with
      | zero => simp at e; subst e; exact ⟨_, rfl, r⟩
      | succ i =>
        obtain ⟨w, h1, h2⟩ := ih rr (by simpa using e)
        exact ⟨w, by simpa using h1, h2⟩
theorem RepAll.append {vs ws : List V} : ∀ {ds es : List D}, RepAll k N H vs ds → RepAll k N H ws es → RepAll k N H (vs ++ ws) (ds ++ es) := fun {ds es} => by
  induction vs generalizing ds with
  | nil => intro h g; cases h; exact g
  | cons v vs ih => intro h g; cases h with
    | cons r rr => exact .cons r (ih rr g)
theorem RepAll.take {vs : List V} (n : Nat) : ∀ {ds : List D}, RepAll k N H vs ds → RepAll k N H (vs.take n) (ds.take n) := fun {ds} => by
  induction vs generalizing ds n with
  | nil => intro h; cases h; simp; exact .nil
  | cons v vs ih =>
    intro h
    cases h with
    | cons r rr =>
      cases n with
      | zero => exact .nil
      | succ n => exact .cons r (ih n rr)
theorem RepAll.drop {vs : List V} (n : Nat) : ∀ {ds : List D}, RepAll k N H vs ds → RepAll k N H (vs.drop n) (ds.drop n) := fun {ds} => by
  induction vs generalizing ds n with
  | nil => intro h; cases h; simp; exact .nil
  | cons v vs ih =>
    intro h
    cases h with
    | cons r rr =>
      cases n with
      | zero => exact .cons r rr
      | succ n => exact ih n rr
theorem RepAll.set {vs : List V} {v : V} {d : D} (r : Rep k N H v d) : ∀ {ds : List D} (i : Nat), RepAll k N H vs ds → RepAll k N H (vs.set i v) (ds.set i d) := fun {ds} => by
  induction vs generalizing ds with
  | nil => intro i h; cases h; exact .nil
  | cons w vs ih =>
    intro i h
    cases h with
    | cons r1 rr =>
      cases i with
      | zero => exact .cons r rr
      | succ i => exact .cons r1 (ih i rr)
theorem RepAll.eraseIdx {vs : List V} : ∀ {ds : List D} (i : Nat), RepAll k N H vs ds → RepAll k N H (vs.eraseIdx i) (ds.eraseIdx i) := fun {ds} => by
  induction vs generalizing ds with
  | nil => intro i h; cases h; exact .nil
  | cons w vs ih =>
    intro i h
    cases h with
    | cons r1 rr =>
      cases i with
      | zero => exact rr
      | succ i => exact .cons r1 (ih i rr)
theorem RepAll.mem {vs : List V} : ∀ {ds : List D} {v : V}, RepAll k N H vs ds → v ∈ vs → ∃ d, d ∈ ds ∧ Rep k N H v d := fun {ds v} => by
  induction vs generalizing ds with
  | nil => intro h e; cases e
  | cons w vs ih =>
    intro h e
    cases h with
    | cons r rr =>
      rcases List.mem_cons.mp e with rfl | e
      · exact ⟨_, List.mem_cons_self, r⟩
      · obtain ⟨d, h1, h2⟩ := ih rr e
        exact ⟨d, List.mem_cons_of_mem _ h1, h2⟩
/-! ### the slots' data -/
/-- a slot: nothing known; a datum that is shared; a list of one's own (nobody else holds it); a datum that comes from elsewhere -/
inductive Slot where
  | no | sh (d : D) | ow (l : List D) | ro (d : D) | fx (v : V)
abbrev DEnv := List Slot
abbrev Pot := Int × Int
def potO (p : Pot) : HO := .lst [.int p.1, .int p.2]

/-- the frame of a data run: what may be in results (U), what may not (gh), what is to stay (H0) -/
structure Wd where
  k : Kx
  U : Addr → Prop
  gh : Addr → Prop
  H0 : Hp
  G0 : Hp

/-- the address of an owned list -/
def OwnAt (ρ : DEnv) (σ : L2.St) (a : Addr) : Prop := ∃ (i : Nat) (l : List D), ρ[i]? = some (Slot.ow l) ∧ σ[i]? = some (some (.ref a))
/-- what may stand in a result -/
def Al (w : Wd) (ρ : DEnv) (σ : L2.St) (a : Addr) : Prop := w.U a ∧ ¬ w.gh a ∧ ¬ OwnAt ρ σ a
/-- what may be read -/
def Rdb (w : Wd) (a : Addr) : Prop := ¬ w.gh a
def Fr (w : Wd) (ρ : DEnv) (σ : L2.St) (a : Addr) : Prop := ¬ w.gh a ∧ ¬ OwnAt ρ σ a

def SlotOk (w : Wd) (ρ : DEnv) (σ : L2.St) (H : Hp) (i : Nat) : Slot → Prop
  | .no => True
  | .fx v => σ[i]? = some (some v)
  | .sh d => ∃ v, σ[i]? = some (some v) ∧ Rep w.k (Al w ρ σ) H v d
  | .ro d => ∃ v, σ[i]? = some (some v) ∧ Rep w.k (Fr w ρ σ) H v d
  | .ow l => ∃ p xs, σ[i]? = some (some (.ref p)) ∧ H p = some (.lst xs) ∧ w.H0 p = none ∧ ¬ w.gh p ∧ RepAll w.k (Al w ρ σ) H xs l

structure Ok (C : Addr) (w : Wd) (ρ : DEnv) (p : Pot) (σ : L2.St) (H : Hp) : Prop where
  cls : w.k.C = C
  pot : H w.k.pa = some (potO p)
  pgh : w.gh w.k.pa
  ghs : ∀ a, w.gh a → H a ≠ none
  h0 : ∀ a o, w.H0 a = some o → H a = some o
  h0g : ∀ a o, w.H0 a = some o → ¬ w.gh a
  fresh : ∀ a, w.H0 a = none → w.U a
  len : ρ.length ≤ σ.length
  slots : ∀ (i : Nat) s, ρ[i]? = some s → SlotOk w ρ σ H i s
  apart : ∀ (i j : Nat) l m a, ρ[i]? = some (.ow l) → ρ[j]? = some (.ow m) → σ[i]? = some (some (.ref a)) → σ[j]? = some (some (.ref a)) → i = j
  g0 : ∀ a o, w.G0 a = some o → H a = some o
  g0g : ∀ a o, w.G0 a = some o → w.gh a ∧ a ≠ w.k.pa
  ui : ∀ a dx fs, H a = some (.ins w.k.C dx fs) → w.U a ∧ ¬ w.gh a

/-- what an expression leaves: all but the pot -/
def Keep (k : Kx) (p : Pot) (H H' : Hp) : Prop := (∀ a o, a ≠ k.pa → H a = some o → H' a = some o) ∧ H' k.pa = some (potO p)

variable {C : Addr} {w : Wd} {ρ : DEnv} {σ : L2.St} {p p' p1 p2 : Pot}
theorem Keep.trans {kx : Kx} {H3 : Hp} (a : Keep kx p1 H H1) (b : Keep kx p2 H1 H3) : Keep kx p2 H H3 := ⟨fun c o n e => b.1 c o n (a.1 c o n e), b.2⟩
theorem Keep.refl (h : Ok C w ρ p σ H) : Keep w.k p H H := ⟨fun _ _ _ e => e, h.pot⟩
theorem Ok.own (h : Ok C w ρ p σ H) {a : Addr} (o : OwnAt ρ σ a) : ∃ xs, H a = some (.lst xs) ∧ w.H0 a = none ∧ ¬ w.gh a := by
  obtain ⟨i, l, e1, e2⟩ := o
  obtain ⟨q, xs, e3, e4, e5, e6, _⟩ := h.slots i _ e1
  rw [e2] at e3
  cases e3
  exact ⟨xs, e4, e5, e6⟩
theorem Ok.new (h : Ok C w ρ p σ H) {a : Addr} (n : H a = none) : Al w ρ σ a := by
  refine ⟨h.fresh a ?_, fun g => h.ghs a g n, fun o => ?_⟩
  · cases e : w.H0 a with
    | none => rfl
    | some u => rw [h.h0 a u e] at n; cases n
  · obtain ⟨xs, e, _⟩ := h.own o
    rw [e] at n; cases n
theorem Al.fr {a : Addr} (h : Al w ρ σ a) : Fr w ρ σ a := ⟨h.2.1, h.2.2⟩
theorem Ok.nopot (h : Ok C w ρ p σ H) {a : Addr} (g : ¬ w.gh a) : a ≠ w.k.pa := fun e => g (e ▸ h.pgh)
/-- an instance may stand anywhere -/
theorem Ok.ins (h : Ok C w ρ p σ H) {a dx : Addr} {fs : List (Str × V)} (e : H a = some (.ins C dx fs)) : Al w ρ σ a := by
  have e' := e
  rw [← h.cls] at e'
  obtain ⟨h1, h2⟩ := h.ui a dx fs e'
  refine ⟨h1, h2, fun o => ?_⟩
  obtain ⟨xs, e2, _⟩ := h.own o
  rw [e] at e2
  cases e2
theorem Ok.keep (h : Ok C w ρ p σ H) (q : Keep w.k p' H H') : Ok C w ρ p' σ H' where
  cls := h.cls
  pot := q.2
  pgh := h.pgh
  ghs := fun a g => by
    by_cases e : a = w.k.pa
    · rw [e, q.2]; exact fun z => nomatch z
    · cases u : H a with
      | none => exact absurd u (h.ghs a g)
      | some o => rw [q.1 a o e u]; exact fun z => nomatch z
  h0 := fun a o e => q.1 a o (h.nopot (h.h0g a o e)) (h.h0 a o e)
  h0g := h.h0g
  fresh := h.fresh
  len := h.len
  slots := fun i s e => by
    have z := h.slots i s e
    cases s with
    | no => trivial
    | fx v => exact z
    | sh d =>
      obtain ⟨v, e1, r⟩ := z
      exact ⟨v, e1, r.keep fun a o n e => q.1 a o (h.nopot n.2.1) e⟩
    | ro d =>
      obtain ⟨v, e1, r⟩ := z
      exact ⟨v, e1, r.keep fun a o n e => q.1 a o (h.nopot n.1) e⟩
    | ow l =>
      obtain ⟨b, xs, e1, e2, e3, e4, r⟩ := z
      exact ⟨b, xs, e1, q.1 b _ (h.nopot e4) e2, e3, e4, r.keep fun a o n e => q.1 a o (h.nopot n.2.1) e⟩
  apart := h.apart
  g0 := fun a o e => q.1 a o (h.g0g a o e).2 (h.g0 a o e)
  g0g := h.g0g
  ui := fun a dx fs e => by
    cases u : H a with
    | none =>
      have n := h.new u
      exact ⟨n.1, n.2.1⟩
    | some o =>
      by_cases ha : a = w.k.pa
      · rw [ha, q.2] at e; cases e
      · have := q.1 a o ha u
        rw [e] at this
        cases this
        exact h.ui a dx fs u

/-! ### expressions -/
/-- what an expression computes -/
abbrev EF := DEnv → Pot → Option (D × Pot)
/-- where its result may stand: where results may; anywhere but at ghosts and owned lists; anywhere but at ghosts -/
inductive Mo where
  | al | fr | rd
def Md (m : Mo) (w : Wd) (ρ : DEnv) (σ : L2.St) : Addr → Prop := match m with
  | .al => Al w ρ σ
  | .fr => Fr w ρ σ
  | .rd => Rdb w
theorem Md.al {a : Addr} {m : Mo} (h : Al w ρ σ a) : Md m w ρ σ a := by
  cases m with
  | al => exact h
  | fr => exact ⟨h.2.1, h.2.2⟩
  | rd => exact h.2.1
theorem Md.nog {a : Addr} {m : Mo} (h : Md m w ρ σ a) : ¬ w.gh a := by
  cases m with
  | al => exact h.2.1
  | fr => exact h.1
  | rd => exact h
theorem Md.up {a : Addr} {m : Mo} (h : Md m w ρ σ a) : Md .rd w ρ σ a := h.nog
def tD (C : Addr) (m : Mo) (f : EF) : TE := fun σ H Q => ∃ w ρ p, Ok C w ρ p σ H ∧ ∃ d p', f ρ p = some (d, p') ∧ ∀ v H', Keep w.k p' H H' → Rep w.k (Md m w ρ σ) H' v d → Q v H'
variable {X : Cx}
/-- the class Ratio -/
def clsM (mg : Str → Option Value) : Addr := match mg "Ratio" with
  | some (.ref a) => a
  | _ => 0
abbrev clsOf (X : Cx) : Addr := clsM X.mg
def DE (X : Cx) (m : Mo) (e : Expr) (f : EF) : Prop := PE X e (tD (clsOf X) m f)
theorem PE.weak {e : Expr} {t t' : TE} (h : PE X e t) (i : ∀ σ H Q, t' σ H Q → t σ H Q) : PE X e t' := ⟨fun pins s σ H Q I q => h.run pins s σ H Q I (i _ _ _ q)⟩
theorem PT.weak {e : Expr} {t t' : TT} (h : PT X e t) (i : ∀ σ H Q, t' σ H Q → t σ H Q) : PT X e t' := ⟨fun pins s σ H Q I q => h.run pins s σ H Q I (i _ _ _ q)⟩
theorem PW.weak {e : Expr} {t t' : TT} (h : PW X e t) (i : ∀ σ H Q, t' σ H Q → t σ H Q) : PW X e t' := ⟨fun wh pins s σ H Q I q => h.run wh pins s σ H Q I (i _ _ _ q)⟩
theorem PA.weak {e : List Expr} {t t' : TA} (h : PA X e t) (i : ∀ σ H Q, t' σ H Q → t σ H Q) : PA X e t' := ⟨fun wh pins s σ H Q I q => h.run wh pins s σ H Q I (i _ _ _ q)⟩
theorem PS.weak {e : Stmt} {t t' : TS} (h : PS X e t) (i : ∀ D σ H, t' D σ H → t D σ H) : PS X e t' := ⟨fun pins s σ H D I q => h.run pins s σ H D I (i _ _ _ q)⟩
theorem PSs.weak {e : List Stmt} {t t' : TS} (h : PSs X e t) (i : ∀ D σ H, t' D σ H → t D σ H) : PSs X e t' := ⟨fun pins s σ H D I q => h.run pins s σ H D I (i _ _ _ q)⟩
theorem PI.weak {tg e : Expr} {t t' : TI} (h : PI X tg e t) (i : ∀ σ H R, t' σ H R → t σ H R) : PI X tg e t' := ⟨fun pins s σ H R I q => h.run pins s σ H R I (i _ _ _ q)⟩

/-- a step of a data run: f's answer, then what is behind it -/
theorem tD.go {m : Mo} {f : EF} {H : Hp} {d : D} {Q : VK} (o : Ok C w ρ p σ H) (e : f ρ p = some (d, p')) (h : ∀ v H', Ok C w ρ p' σ H' → Keep w.k p' H H' → Rep w.k (Md m w ρ σ) H' v d → Q v H') : tD C m f σ H Q :=
  ⟨w, ρ, p, o, d, p', e, fun v H' q r => h v H' (o.keep q) q r⟩
/-- a datum told stays -/
theorem Rep.on {m : Mo} {d : D} {v : V} (o : Ok C w ρ p σ H) (q : Keep w.k p' H H') (r : Rep w.k (Md m w ρ σ) H v d) : Rep w.k (Md m w ρ σ) H' v d :=
  r.keep fun a u n e => q.1 a u (o.nopot n.nog) e
theorem RepAll.on {m : Mo} {d : List D} {v : List V} (o : Ok C w ρ p σ H) (q : Keep w.k p' H H') (r : RepAll w.k (Md m w ρ σ) H v d) : RepAll w.k (Md m w ρ σ) H' v d :=
  r.keep fun a u n e => q.1 a u (o.nopot n.nog) e
/-- a flat datum stands anywhere -/
def D.flat : D → Bool
  | .lst _ | .tup _ | .rat _ _ | .edict => false
  | _ => true
theorem Rep.flat {M : Addr → Prop} {d : D} {v : V} (f : d.flat = true) (r : Rep k N H v d) : Rep k M H' v d := by
  cases r with
  | non => exact .non
  | bl b => exact .bl b
  | int b => exact .int b
  | str b => exact .str b
  | ty b => exact .ty b
  | pot => exact .pot
  | obj a => exact .obj a
  | lst _ _ _ => cases f
  | tup _ _ _ => cases f
  | rat _ _ => cases f
  | edict _ _ => cases f
end DL
namespace DL
open PySem PySem.Spec PyProof.Rows L2
variable {k : Kx} {N N' : Addr → Prop} {H H' H1 H2 : Hp} {w : Wd} {ρ : DEnv} {σ : L2.St} {p p' p1 p2 : Pot} {X : Cx} {C : Addr}

/-! ### names, constants -/
def dVar (i : Nat) : EF := fun ρ p => match ρ[i]? with
  | some (.sh d) => some (d, p)
  | _ => none
def dVarB (i : Nat) : EF := fun ρ p => match ρ[i]? with
  | some (.sh d) => some (d, p)
  | some (.ro d) => some (d, p)
  | some (.ow l) => some (.lst l, p)
  | _ => none
theorem de_var {e : Expr} {i : Nat} {m : Mo} (h : PE X e (tVar i)) : DE X m e (dVar i) := by
  refine PE.weak h fun σ H Q ⟨w, ρ, p, ok, d, p', e, q⟩ => ?_
  unfold dVar at e
  split at e
  · rename_i d' hs
    cases e
    obtain ⟨v, e1, r⟩ := ok.slots i _ hs
    exact ⟨v, e1, q v H (Keep.refl ok) (r.weak fun a n => Md.al n)⟩
  · cases e
def dVarF (i : Nat) : EF := fun ρ p => match ρ[i]? with
  | some (.sh d) => some (d, p)
  | some (.ro d) => some (d, p)
  | _ => none
theorem de_varF {e : Expr} {i : Nat} (h : PE X e (tVar i)) : DE X .fr e (dVarF i) := by
  refine PE.weak h fun σ H Q ⟨w, ρ, p, ok, d, p', e, q⟩ => ?_
  unfold dVarF at e
  split at e
  · rename_i d' hs
    cases e
    obtain ⟨v, e1, r⟩ := ok.slots i _ hs
    exact ⟨v, e1, q v H (Keep.refl ok) (r.weak fun a n => Md.al n)⟩
  · rename_i d' hs
    cases e
    obtain ⟨v, e1, r⟩ := ok.slots i _ hs
    exact ⟨v, e1, q v H (Keep.refl ok) r⟩
  · cases e
theorem de_varB {e : Expr} {i : Nat} (h : PE X e (tVar i)) : DE X .rd e (dVarB i) := by
  refine PE.weak h fun σ H Q ⟨w, ρ, p, ok, d, p', e, q⟩ => ?_
  unfold dVarB at e
  split at e
  · rename_i d' hs
    cases e
    obtain ⟨v, e1, r⟩ := ok.slots i _ hs
    exact ⟨v, e1, q v H (Keep.refl ok) (r.weak fun a n => Md.al n)⟩
  · rename_i d' hs
    cases e
    obtain ⟨v, e1, r⟩ := ok.slots i _ hs
    exact ⟨v, e1, q v H (Keep.refl ok) (r.weak fun a n => n.1)⟩
  · rename_i l hs
    cases e
    obtain ⟨b, xs, e1, e2, e3, e4, r⟩ := ok.slots i _ hs
    exact ⟨_, e1, q _ H (Keep.refl ok) (.lst (show ¬ w.gh b from e4) e2 (r.weak fun a n => n.2.1))⟩
  · cases e
def dK (d : D) : EF := fun _ p => some (d, p)
theorem de_K {e : Expr} {v : V} {d : D} {m : Mo} (h : PE X e (tC v)) (r : ∀ k N H, Rep k N H v d) : DE X m e (dK d) := by
  refine PE.weak h fun σ H Q ⟨w, ρ, p, ok, d, p', e, q⟩ => ?_
  cases e
  exact q v H (Keep.refl ok) (r _ _ _)
theorem de_int {m : Mo} {i : Int} {j : Nat} {pos : Pos} : DE X m (.Constant (.int i) j pos) (dK (.int i)) := de_K pe_int fun _ _ _ => .int i
theorem de_bl {m : Mo} {b : Bool} {j : Nat} {pos : Pos} : DE X m (.Constant (.bool b) j pos) (dK (.bl b)) := de_K pe_bl fun _ _ _ => .bl b
theorem de_non {m : Mo} {j : Nat} {pos : Pos} : DE X m (.Constant .none j pos) (dK .non) := de_K pe_non fun _ _ _ => .non
theorem de_str {m : Mo} {s : Str} {j : Nat} {pos : Pos} : DE X m (.Constant (.str s) j pos) (dK (.str s)) := de_K pe_str fun _ _ _ => .str s
theorem de_up {e : Expr} {f : EF} {m : Mo} (h : DE X .al e f) : DE X m e f := by
  refine PE.weak h fun σ H Q ⟨w, ρ, p, ok, d, p', e, q⟩ => ⟨w, ρ, p, ok, d, p', e, fun v H' kk r => q v H' kk (r.weak fun a n => Md.al n)⟩
/-- an answer that is flat stands anywhere -/
def dFlat (f : EF) : EF := fun ρ p => (f ρ p).bind fun x => if x.1.flat = true then some x else none
theorem de_flat {e : Expr} {f : EF} {m m' : Mo} (h : DE X m e f) : DE X m' e (dFlat f) := by
  refine PE.weak h fun σ H Q ⟨w, ρ, p, ok, d, p', e, q⟩ => ?_
  unfold dFlat at e
  cases e1 : f ρ p with
  | none => rw [e1] at e; cases e
  | some x =>
    rw [e1] at e
    simp only [Option.bind_some] at e
    split at e
    · rename_i hf
      cases e
      exact ⟨w, ρ, p, ok, d, p', e1, fun v H' kk r => q v H' kk (r.flat hf)⟩
    · cases e

/-! ### lists of expressions -/
abbrev AF := DEnv → Pot → Option (List D × Pot)
def tDA (C : Addr) (m : Mo) (f : AF) : TA := fun σ H Q => ∃ w ρ p, Ok C w ρ p σ H ∧ ∃ ds p', f ρ p = some (ds, p') ∧ ∀ vs H', Keep w.k p' H H' → RepAll w.k (Md m w ρ σ) H' vs ds → Q vs H'
def DA (X : Cx) (m : Mo) (es : List Expr) (f : AF) : Prop := PA X es (tDA (clsOf X) m f)
def dNil : AF := fun _ p => some ([], p)
def dCons (f : EF) (g : AF) : AF := fun ρ p => (f ρ p).bind fun x => (g ρ x.2).map fun y => (x.1 :: y.1, y.2)
theorem da_nil {m : Mo} : DA X m [] dNil := PA.weak pa_nil fun σ H Q ⟨w, ρ, p, ok, ds, p', e, q⟩ => by
  cases e
  exact q [] H (Keep.refl ok) .nil
theorem da_cons {m : Mo} {e : Expr} {es : List Expr} {f : EF} {g : AF} (h : DE X m e f) (hr : DA X m es g) (hs : starEach (e :: es) X.env = (false, eval e X.env) :: starEach es X.env := by rfl) : DA X m (e :: es) (dCons f g) := by
  refine PA.weak (pa_cons h hr hs) fun σ H Q ⟨w, ρ, p, ok, ds, p', e, q⟩ => ?_
  unfold dCons at e
  cases e1 : f ρ p with
  | none => rw [e1] at e; cases e
  | some x =>
    obtain ⟨d, p1⟩ := x
    rw [e1] at e
    simp only [Option.bind_some] at e
    cases e2 : g ρ p1 with
    | none => rw [e2] at e; cases e
    | some y =>
      obtain ⟨r, p2⟩ := y
      rw [e2] at e
      simp only [Option.map_some] at e
      cases e
      refine ⟨w, ρ, p, ok, d, p1, e1, fun v H1 k1 r1 => ⟨w, ρ, p1, ok.keep k1, r, p', e2, fun vs H2 k2 r2 => ?_⟩⟩
      exact q _ H2 (k1.trans k2) (.cons (r1.on (ok.keep k1) k2) r2)

/-! ### operators -/
abbrev G2 := D → D → Option D
def dBin (g : G2) (fa fb : EF) : EF := fun ρ p => (fa ρ p).bind fun x => (fb ρ x.2).bind fun y => (g x.1 y.1).map fun d => (d, y.2)
/-- a rule on values does what g does on data -/
def R2Ok (C : Addr) (m m' : Mo) (r : R2) (g : G2) : Prop := ∀ (w : Wd) (ρ : DEnv) (p : Pot) (σ : L2.St) (H : Hp) (x y : V) (a b d : D) (Q : VK), Ok C w ρ p σ H → Rep w.k (Md m w ρ σ) H x a → Rep w.k (Md m w ρ σ) H y b → g a b = some d →
  (∀ v H', Keep w.k p H H' → Rep w.k (Md m' w ρ σ) H' v d → Q v H') → r x y H Q
theorem bin_go {m m' : Mo} {r : R2} {g : G2} {fa fb : EF} (hr : R2Ok C m m' r g) {σ : L2.St} {H : Hp} {Q : VK} (h : tD C m' (dBin g fa fb) σ H Q) : tD C m fa σ H fun x H1 => tD C m fb σ H1 fun y H2 => r x y H2 Q := by
  obtain ⟨w, ρ, p, ok, d, p', e, q⟩ := h
  unfold dBin at e
  cases e1 : fa ρ p with
  | none => rw [e1] at e; cases e
  | some x =>
    obtain ⟨a, p1⟩ := x
    rw [e1] at e
    simp only [Option.bind_some] at e
    cases e2 : fb ρ p1 with
    | none => rw [e2] at e; cases e
    | some y =>
      obtain ⟨b, p2⟩ := y
      rw [e2] at e
      simp only [Option.bind_some] at e
      cases e3 : g a b with
      | none => rw [e3] at e; cases e
      | some d' =>
        rw [e3] at e
        simp only [Option.map_some] at e
        cases e
        refine ⟨w, ρ, p, ok, a, p1, e1, fun v H1 k1 r1 => ⟨w, ρ, p1, ok.keep k1, b, p', e2, fun u H2 k2 r2 => ?_⟩⟩
        exact hr w ρ p' σ H2 v u a b d Q ((ok.keep k1).keep k2) (r1.on (ok.keep k1) k2) r2 e3 fun z H3 k3 r3 => q z H3 ((k1.trans k2).trans k3) r3
section
variable {a b : Expr} {fa fb : EF} {m m' : Mo} {r : R2} {g : G2} {pos : Pos}
theorem de_op {op : Operator} (ho : OpR X (binaryOp op) r) (hr : R2Ok (clsOf X) m m' r g) (ha : DE X m a fa) (hb : DE X m b fb) : DE X m' (.BinOp a op b pos) (dBin g fa fb) :=
  PE.weak (pe_op ho ha hb) fun _ _ _ h => bin_go hr h
theorem de_cmp {op : CmpOp} (ho : OpR X (compareOp op) r) (hr : R2Ok (clsOf X) m m' r g) (ha : DE X m a fa) (hb : DE X m b fb) (hm : behindInMarks op b = false) : DE X m' (.Compare a [op] [b] pos) (dBin g fa fb) :=
  PE.weak (pe_cmpR ho ha hb hm) fun _ _ _ h => bin_go hr h
theorem de_ix (ho : IxR X r) (hr : R2Ok (clsOf X) m m' r g) (ha : DE X m a fa) (hb : DE X m b fb) (hs : PlainIx b) : DE X m' (.Subscript a b pos) (dBin g fa fb) :=
  PE.weak (pe_ix ho ha hb hs) fun _ _ _ h => bin_go hr h
end

/-! ### tests -/
abbrev BF := DEnv → Pot → Option (Bool × Pot)
def tDT (C : Addr) (f : BF) : TT := fun σ H Q => ∃ w ρ p, Ok C w ρ p σ H ∧ ∃ b p', f ρ p = some (b, p') ∧ ∀ H', Keep w.k p' H H' → Q b H'
def DT (X : Cx) (e : Expr) (f : BF) : Prop := PT X e (tDT (clsOf X) f)
def DW (X : Cx) (e : Expr) (f : BF) : Prop := PW X e (tDT (clsOf X) f)
def bOf (f : EF) : BF := fun ρ p => (f ρ p).bind fun x => match x.1 with
  | .bl b => some (b, x.2)
  | _ => none
theorem bOf_go {m : Mo} {f : EF} {σ : L2.St} {H : Hp} {Q : Bool → Hp → Prop} (h : tDT C (bOf f) σ H Q) : tD C m f σ H fun x H1 => ∃ c, x = .bl c ∧ Q c H1 := by
  obtain ⟨w, ρ, p, ok, b, p', e, q⟩ := h
  unfold bOf at e
  cases e1 : f ρ p with
  | none => rw [e1] at e; cases e
  | some x =>
    obtain ⟨d, p1⟩ := x
    rw [e1] at e
    simp only [Option.bind_some] at e
    cases d <;> first | cases e | skip
    exact ⟨w, ρ, p, ok, _, _, e1, fun v H1 k1 r1 => by cases r1; exact ⟨_, rfl, q H1 k1⟩⟩
theorem dt_val {e : Expr} {f : EF} {m : Mo} (h : DE X m e f) (he : ∀ whole, isTrue e X.env whole = (do let v ← whole; standAt e.pos; holding [v] (truthy v)) := by intro _; rfl) : DT X e (bOf f) :=
  PT.weak (pt_val h he) fun _ _ _ h => bOf_go h
theorem dt_cmp {a b : Expr} {fa fb : EF} {m m' : Mo} {r : R2} {g : G2} {pos : Pos} {op : CmpOp} (ho : OpR X (compareOp op) r) (hr : R2Ok (clsOf X) m m' r g) (ha : DE X m a fa) (hb : DE X m b fb) (hm : behindInMarks op b = false) : DT X (.Compare a [op] [b] pos) (bOf (dBin g fa fb)) :=
  PT.weak (pt_cmpR ho ha hb hm) fun _ _ _ h => bin_go (m' := m') hr (bOf_go h)
def bAnd (f g : BF) : BF := fun ρ p => (f ρ p).bind fun x => if x.1 = true then g ρ x.2 else some (false, x.2)
def bOr (f g : BF) : BF := fun ρ p => (f ρ p).bind fun x => if x.1 = true then some (true, x.2) else g ρ x.2
def bNot (f : BF) : BF := fun ρ p => (f ρ p).map fun x => (!x.1, x.2)
theorem dw_and1 {a : Expr} {f : BF} {pos : Pos} (h : DT X a f) : DW X (.BoolOp .And [a] pos) f := pw_and1 h
theorem dw_or1 {a : Expr} {f : BF} {pos : Pos} (h : DT X a f) : DW X (.BoolOp .Or [a] pos) f := pw_or1 h
theorem dw_and {a b : Expr} {rest : List Expr} {f g : BF} {pos : Pos} (ha : DT X a f) (hb : DW X (.BoolOp .And (b :: rest) pos) g) : DW X (.BoolOp .And (a :: b :: rest) pos) (bAnd f g) := by
  refine PW.weak (pw_and ha hb) fun σ H Q ⟨w, ρ, p, ok, b, p', e, q⟩ => ?_
  unfold bAnd at e
  cases e1 : f ρ p with
  | none => rw [e1] at e; cases e
  | some x =>
    obtain ⟨c, p1⟩ := x
    rw [e1] at e
    simp only [Option.bind_some] at e
    refine ⟨w, ρ, p, ok, c, p1, e1, fun H1 k1 => ?_⟩
    cases c with
    | true => exact ⟨w, ρ, p1, ok.keep k1, b, p', e, fun H2 k2 => q H2 (k1.trans k2)⟩
    | false =>
      simp only [Bool.false_eq_true, if_false] at e ⊢
      cases e
      exact q H1 k1
theorem dw_or {a b : Expr} {rest : List Expr} {f g : BF} {pos : Pos} (ha : DT X a f) (hb : DW X (.BoolOp .Or (b :: rest) pos) g) : DW X (.BoolOp .Or (a :: b :: rest) pos) (bOr f g) := by
  refine PW.weak (pw_or ha hb) fun σ H Q ⟨w, ρ, p, ok, b, p', e, q⟩ => ?_
  unfold bOr at e
  cases e1 : f ρ p with
  | none => rw [e1] at e; cases e
  | some x =>
    obtain ⟨c, p1⟩ := x
    rw [e1] at e
    simp only [Option.bind_some] at e
    refine ⟨w, ρ, p, ok, c, p1, e1, fun H1 k1 => ?_⟩
    cases c with
    | false => exact ⟨w, ρ, p1, ok.keep k1, b, p', e, fun H2 k2 => q H2 (k1.trans k2)⟩
    | true =>
      simp only [if_true] at e ⊢
      cases e
      exact q H1 k1
theorem dt_w {e : Expr} {f : BF} (h : DW X e f) : DT X e f := PW.pt h
theorem dt_not {a : Expr} {f : BF} {pos : Pos} (h : DT X a f) : DT X (.UnaryOp .Not a pos) (bNot f) := by
  refine PT.weak (pt_not h) fun σ H Q ⟨w, ρ, p, ok, b, p', e, q⟩ => ?_
  unfold bNot at e
  cases e1 : f ρ p with
  | none => rw [e1] at e; cases e
  | some x =>
    rw [e1] at e
    cases e
    exact ⟨w, ρ, p, ok, _, _, e1, q⟩
/-- a bool's function as an expression's -/
def eOf (f : BF) : EF := fun ρ p => (f ρ p).map fun x => (.bl x.1, x.2)
/-- and, or, not as values: all but the last are bools -/
def dAnd (f g : EF) : EF := fun ρ p => (bOf f ρ p).bind fun x => if x.1 = true then g ρ x.2 else some (.bl false, x.2)
def dOr (f g : EF) : EF := fun ρ p => (bOf f ρ p).bind fun x => if x.1 = true then some (.bl true, x.2) else g ρ x.2
theorem bOf_some {f : EF} {b : Bool} (h : bOf f ρ p = some (b, p')) : f ρ p = some (.bl b, p') := by
  unfold bOf at h
  cases e1 : f ρ p with
  | none => rw [e1] at h; cases h
  | some x =>
    obtain ⟨d, p1⟩ := x
    rw [e1] at h
    simp only [Option.bind_some] at h
    cases d <;> first | cases h | skip
    rfl
theorem de_one {a : Expr} {f : EF} {m : Mo} {pos : Pos} {op : BoolOp} (h : DE X m a f) : DE X m (.BoolOp op [a] pos) f := pe_one h
theorem de_and {a b : Expr} {rest : List Expr} {f g : EF} {m m' : Mo} {pos : Pos} (ha : DE X m' a f) (hb : DE X m (.BoolOp .And (b :: rest) pos) g) : DE X m (.BoolOp .And (a :: b :: rest) pos) (dAnd f g) := by
  refine PE.weak (pe_and ha hb) fun σ H Q ⟨w, ρ, p, ok, d, p', e, q⟩ => ?_
  unfold dAnd at e
  cases e1 : bOf f ρ p with
  | none => rw [e1] at e; cases e
  | some x =>
    obtain ⟨c, p1⟩ := x
    rw [e1] at e
    simp only [Option.bind_some] at e
    refine ⟨w, ρ, p, ok, _, _, bOf_some e1, fun v H1 k1 r1 => ?_⟩
    cases r1
    refine ⟨c, rfl, ?_⟩
    cases c with
    | true => exact ⟨w, ρ, p1, ok.keep k1, d, p', e, fun v H2 k2 r2 => q v H2 (k1.trans k2) r2⟩
    | false =>
      simp only [Bool.false_eq_true, if_false] at e ⊢
      cases e
      exact q _ H1 k1 (.bl false)
theorem de_or {a b : Expr} {rest : List Expr} {f g : EF} {m m' : Mo} {pos : Pos} (ha : DE X m' a f) (hb : DE X m (.BoolOp .Or (b :: rest) pos) g) : DE X m (.BoolOp .Or (a :: b :: rest) pos) (dOr f g) := by
  refine PE.weak (pe_or ha hb) fun σ H Q ⟨w, ρ, p, ok, d, p', e, q⟩ => ?_
  unfold dOr at e
  cases e1 : bOf f ρ p with
  | none => rw [e1] at e; cases e
  | some x =>
    obtain ⟨c, p1⟩ := x
    rw [e1] at e
    simp only [Option.bind_some] at e
    refine ⟨w, ρ, p, ok, _, _, bOf_some e1, fun v H1 k1 r1 => ?_⟩
    cases r1
    refine ⟨c, rfl, ?_⟩
    cases c with
    | false => exact ⟨w, ρ, p1, ok.keep k1, d, p', e, fun v H2 k2 r2 => q v H2 (k1.trans k2) r2⟩
    | true =>
      simp only [if_true] at e ⊢
      cases e
      exact q _ H1 k1 (.bl true)
def dNot (f : EF) : EF := fun ρ p => (bOf f ρ p).map fun x => (.bl (!x.1), x.2)
theorem de_not {a : Expr} {f : EF} {m m' : Mo} {pos : Pos} (ha : DE X m' a f) : DE X m (.UnaryOp .Not a pos) (dNot f) := by
  refine PE.weak (pe_not ha) fun σ H Q ⟨w, ρ, p, ok, d, p', e, q⟩ => ?_
  unfold dNot at e
  cases e1 : bOf f ρ p with
  | none => rw [e1] at e; cases e
  | some x =>
    obtain ⟨c, p1⟩ := x
    rw [e1] at e
    cases e
    refine ⟨w, ρ, p, ok, _, _, bOf_some e1, fun v H1 k1 r1 => ?_⟩
    cases r1
    exact ⟨c, rfl, q _ H1 k1 (.bl _)⟩
def dIf (c : BF) (f g : EF) : EF := fun ρ p => (c ρ p).bind fun x => if x.1 = true then f ρ x.2 else g ρ x.2
theorem de_if {c a b : Expr} {fc : BF} {f g : EF} {m : Mo} {pos : Pos} (hc : DT X c fc) (ha : DE X m a f) (hb : DE X m b g) : DE X m (.IfExp c a b pos) (dIf fc f g) := by
  refine PE.weak (pe_ifExp hc ha hb) fun σ H Q ⟨w, ρ, p, ok, d, p', e, q⟩ => ?_
  unfold dIf at e
  cases e1 : fc ρ p with
  | none => rw [e1] at e; cases e
  | some x =>
    obtain ⟨c, p1⟩ := x
    rw [e1] at e
    simp only [Option.bind_some] at e
    refine ⟨w, ρ, p, ok, c, p1, e1, fun H1 k1 => ?_⟩
    cases c with
    | true => exact ⟨w, ρ, p1, ok.keep k1, d, p', e, fun v H2 k2 r2 => q v H2 (k1.trans k2) r2⟩
    | false => exact ⟨w, ρ, p1, ok.keep k1, d, p', e, fun v H2 k2 r2 => q v H2 (k1.trans k2) r2⟩
/-- a < b < c (the middle asked once) -/
def dChain (g g' : G2) (fa fb fc : EF) : EF := fun ρ p => (fa ρ p).bind fun x => (fb ρ x.2).bind fun y => (g x.1 y.1).bind fun z => match z with
  | .bl true => (fc ρ y.2).bind fun u => (g' y.1 u.1).map fun d => (d, u.2)
  | .bl false => some (.bl false, y.2)
  | _ => none

/-! ### displays -/
theorem Keep.new {kx : Kx} {o : HO} {a : Addr} (hp : H kx.pa = some (potO p)) (n : H a = none) : Keep kx p H (upd H a o) :=
  ⟨fun b u _ e => by rw [upd_ne (ne_of_none e n)]; exact e, by rw [upd_ne (ne_of_none hp n)]; exact hp⟩
theorem RepAll.upd {vs : List V} {ds : List D} {a : Addr} {o : HO} (r : RepAll k N H vs ds) (n : H a = none) : RepAll k N (L2.upd H a o) vs ds :=
  r.keep fun b u _ e => by rw [upd_ne (ne_of_none e n)]; exact e
theorem Rep.upd {v : V} {d : D} {a : Addr} {o : HO} (r : Rep k N H v d) (n : H a = none) : Rep k N (L2.upd H a o) v d :=
  r.keep fun b u _ e => by rw [upd_ne (ne_of_none e n)]; exact e
def dLst (g : AF) : EF := fun ρ p => (g ρ p).bind fun x => if x.1.length ≤ 65536 then some (.lst x.1, x.2) else none
def dTup (g : AF) : EF := fun ρ p => (g ρ p).bind fun x => if x.1.length ≤ 65536 then some (.tup x.1, x.2) else none
theorem small_line {n : Nat} (h : n ≤ 65536) : n ≤ sizeLine := Nat.le_trans h (by rw [sizeLine_eq]; decide)
theorem small_lt {n : Nat} (h : n ≤ 65536) : n < sizeLine := Nat.lt_of_le_of_lt h (by rw [sizeLine_eq]; decide)
theorem de_lst {es : List Expr} {g : AF} {m : Mo} {pos : Pos} (h : DA X m es g) : DE X m (.List es pos) (dLst g) := by
  refine PE.weak (pe_lst h) fun σ H Q ⟨w, ρ, p, ok, d, p', e, q⟩ => ?_
  unfold dLst at e
  cases e1 : g ρ p with
  | none => rw [e1] at e; cases e
  | some x =>
    obtain ⟨ds, p1⟩ := x
    rw [e1] at e
    simp only [Option.bind_some] at e
    split at e
    · rename_i hl
      cases e
      refine ⟨w, ρ, p, ok, ds, p', e1, fun vs H1 k1 r1 => ⟨by rw [r1.length]; exact small_line hl, fun a n => ?_⟩⟩
      have o1 := ok.keep k1
      exact q _ _ (k1.trans (Keep.new o1.pot n)) (.lst (Md.al (o1.new n)) upd_same (r1.upd n))
    · cases e
theorem de_tup {es : List Expr} {g : AF} {m : Mo} {x1} {pos : Pos} (h : DA X m es g) : DE X m (.Tuple es x1 pos) (dTup g) := by
  refine PE.weak (pe_tup h) fun σ H Q ⟨w, ρ, p, ok, d, p', e, q⟩ => ?_
  unfold dTup at e
  cases e1 : g ρ p with
  | none => rw [e1] at e; cases e
  | some x =>
    obtain ⟨ds, p1⟩ := x
    rw [e1] at e
    simp only [Option.bind_some] at e
    split at e
    · rename_i hl
      cases e
      refine ⟨w, ρ, p, ok, ds, p', e1, fun vs H1 k1 r1 => ⟨by rw [r1.length]; exact small_line hl, fun a n => ?_⟩⟩
      have o1 := ok.keep k1
      exact q _ _ (k1.trans (Keep.new o1.pot n)) (.tup (Md.al (o1.new n)) upd_same (r1.upd n))
    · cases e

/-! ### a builtin's call, a method's -/
abbrev GA := List D → Option D
def dApp (g : GA) (f : AF) : EF := fun ρ p => (f ρ p).bind fun x => (g x.1).map fun d => (d, x.2)
def RAOk (C : Addr) (m m' : Mo) (r : List V → Hp → VK → Prop) (g : GA) : Prop := ∀ (w : Wd) (ρ : DEnv) (p : Pot) (σ : L2.St) (H : Hp) (xs : List V) (ds : List D) (d : D) (Q : VK), Ok C w ρ p σ H → RepAll w.k (Md m w ρ σ) H xs ds → g ds = some d →
  (∀ v H', Keep w.k p H H' → Rep w.k (Md m' w ρ σ) H' v d → Q v H') → r xs H Q
theorem app_go {m m' : Mo} {r : List V → Hp → VK → Prop} {g : GA} {f : AF} (hr : RAOk C m m' r g) {σ : L2.St} {H : Hp} {Q : VK} (h : tD C m' (dApp g f) σ H Q) : tDA C m f σ H fun vs H1 => r vs H1 Q := by
  obtain ⟨w, ρ, p, ok, d, p', e, q⟩ := h
  unfold dApp at e
  cases e1 : f ρ p with
  | none => rw [e1] at e; cases e
  | some x =>
    obtain ⟨ds, p1⟩ := x
    rw [e1] at e
    simp only [Option.bind_some] at e
    cases e2 : g ds with
    | none => rw [e2] at e; cases e
    | some d' =>
      rw [e2] at e
      simp only [Option.map_some] at e
      cases e
      exact ⟨w, ρ, p, ok, ds, p', e1, fun vs H1 k1 r1 => hr w ρ p' σ H1 vs ds d Q (ok.keep k1) r1 e2 fun v H2 k2 r2 => q v H2 (k1.trans k2) r2⟩
section
variable {x : Str} {pp pos : Pos} {e : Expr} {es : List Expr} {id T : String} {r : List V → Hp → VK → Prop} {g : GA} {f : AF} {m m' : Mo}
theorem de_callB (hc : CallR X (.builtin id) r) (hr : RAOk (clsOf X) m m' r g) (hg : Gl X x) (hm : X.mg x = none) (hv : bootBuiltins x = some (.builtin id)) (ha : DA X m (e :: es) f) (hn : x ≠ "__name__" := by decide) (hdb : (x == ("__debug__" : Str)) = false := by decide)
    (he : starEach (e :: es) X.env = (false, eval e X.env) :: starEach es X.env := by rfl) (hpl : (backTo pos (starEach es X.env)).any (·.1) = false := by rfl) : DE X m' (.Call (.Name x pp) (e :: es) [] pos) (dApp g f) :=
  PE.weak (pe_callB hc hg hm hv ha hn hdb he hpl) fun _ _ _ h => app_go hr h
theorem de_callTy (hc : CallR X (.type T) r) (hr : RAOk (clsOf X) m m' r g) (hg : Gl X x) (hm : X.mg x = none) (hv : bootBuiltins x = some (.type T)) (ha : DA X m (e :: es) f) (hn : x ≠ "__name__" := by decide) (hdb : (x == ("__debug__" : Str)) = false := by decide)
    (he : starEach (e :: es) X.env = (false, eval e X.env) :: starEach es X.env := by rfl) (hpl : (backTo pos (starEach es X.env)).any (·.1) = false := by rfl) : DE X m' (.Call (.Name x pp) (e :: es) [] pos) (dApp g f) :=
  PE.weak (pe_callTy hc hg hm hv ha hn hdb he hpl) fun _ _ _ h => app_go hr h
theorem de_callBfun (hc : CallR X (.builtin id) r) (hr : RAOk (clsOf X) m m' r g) (hg : Gl X x) (hm : X.mg x = some (.builtin id)) (ha : DA X m (e :: es) f) (hdb : (x == ("__debug__" : Str)) = false := by decide)
    (he : starEach (e :: es) X.env = (false, eval e X.env) :: starEach es X.env := by rfl) (hpl : (backTo pos (starEach es X.env)).any (·.1) = false := by rfl) : DE X m' (.Call (.Name x pp) (e :: es) [] pos) (dApp g f) :=
  PE.weak (pe_callBfun hc hg hm ha hdb he hpl) fun _ _ _ h => app_go hr h
end

/-! ### what a def promises -/
/-- a def on data: its parameters' data, the pot -/
abbrev PF := List D → Pot → Option (D × Pot)
/-- the promise: arguments in N; the answer in N or new (fr: new alone) -/
def spD (C : Addr) (fr : Bool) (f : PF) : Sp := fun vs H Q _ => ∃ (pa : Addr) (N : Addr → Prop) (p : Pot) (ds : List D) (d : D) (p' : Pot), H pa = some (potO p) ∧ ¬ N pa ∧ RepAll ⟨C, pa⟩ N H vs ds ∧ f ds p = some (d, p') ∧
  ∀ v H', Keep ⟨C, pa⟩ p' H H' → Rep ⟨C, pa⟩ (fun a => (fr = false ∧ N a) ∨ H a = none ∨ ∃ dx fs, H a = some (.ins C dx fs)) H' v d → Q v H'
def dCall (f : PF) (g : AF) : EF := fun ρ p => (g ρ p).bind fun x => f x.1 x.2
/-- where a call's arguments may stand, so that its answer may stand there -/
theorem call_go {m : Mo} {fr : Bool} {f : PF} {g : AF} {dvs : List V} {dds : List D} (hd : ∀ k N H, RepAll k N H dvs dds) {σ : L2.St} {H : Hp} {Q : VK} {E : XK}
    (h : ∃ w ρ p, Ok C w ρ p σ H ∧ ∃ d p', dCall (fun ds => f (ds ++ dds)) g ρ p = some (d, p') ∧ ∀ v H', Keep w.k p' H H' → Rep w.k (Md (if fr = true then .al else m) w ρ σ) H' v d → Q v H') :
    tDA C m g σ H fun vs H1 => spD C fr f (vs ++ dvs) H1 Q E := by
  obtain ⟨w, ρ, p, ok, d, p', e, q⟩ := h
  unfold dCall at e
  cases e1 : g ρ p with
  | none => rw [e1] at e; cases e
  | some x =>
    obtain ⟨ds, p1⟩ := x
    rw [e1] at e
    simp only [Option.bind_some] at e
    refine ⟨w, ρ, p, ok, ds, p1, e1, fun vs H1 k1 r1 => ?_⟩
    have o1 := ok.keep k1
    have ek : (⟨C, w.k.pa⟩ : Kx) = w.k := by rw [← ok.cls]
    refine ⟨w.k.pa, Md m w ρ σ, p1, ds ++ dds, d, p', o1.pot, fun n => n.nog ok.pgh, ?_, e, fun v H2 k2 r2 => ?_⟩
    · rw [ek]; exact r1.append (hd _ _ _)
    · rw [ek] at k2 r2
      refine q v H2 (k1.trans k2) (r2.weak fun a n => ?_)
      rcases n with ⟨hf, n⟩ | n | ⟨dx, fs, n⟩
      · subst hf
        exact n
      · exact Md.al (o1.new n)
      · exact Md.al (o1.ins n)
end DL
namespace DL
open PySem PySem.Spec PyProof.Rows L2
variable {k : Kx} {N N' : Addr → Prop} {H H' H1 H2 : Hp} {w : Wd} {ρ ρ' : DEnv} {σ σ' : L2.St} {p p' p1 p2 : Pot} {X : Cx} {C : Addr}

/-! ### slots set -/
theorem OwnAt.of_set {i : Nat} {s : Slot} {v : Option V} {a : Addr} (hs : ∀ l, s = .ow l → v = some (.ref a) → OwnAt ρ σ a) (h : OwnAt (ρ.set i s) (σ.set i v) a) : OwnAt ρ σ a := by
  obtain ⟨j, l, e1, e2⟩ := h
  by_cases hj : i = j
  · subst hj
    have h1 : i < ρ.length := by
      have := (List.getElem?_eq_some_iff.mp e1).1
      simpa using this
    have h2 : i < σ.length := by
      have := (List.getElem?_eq_some_iff.mp e2).1
      simpa using this
    rw [List.getElem?_set_self h1] at e1
    rw [List.getElem?_set_self h2] at e2
    cases e1
    cases e2
    exact hs l rfl rfl
  · rw [List.getElem?_set_ne hj] at e1 e2
    exact ⟨j, l, e1, e2⟩
theorem SlotOk.mono {i : Nat} {s : Slot} (hA : ∀ a, Al w ρ σ a → H a ≠ none → Al w ρ' σ' a) (hF : ∀ a, Fr w ρ σ a → H a ≠ none → Fr w ρ' σ' a) (hv : σ'[i]? = σ[i]?) (h : SlotOk w ρ σ H i s) : SlotOk w ρ' σ' H i s := by
  cases s with
  | no => trivial
  | fx v => exact hv.trans h
  | sh d =>
    obtain ⟨v, e, r⟩ := h
    exact ⟨v, hv.trans e, r.mono hA (fun _ _ _ e => e)⟩
  | ro d =>
    obtain ⟨v, e, r⟩ := h
    exact ⟨v, hv.trans e, r.mono hF (fun _ _ _ e => e)⟩
  | ow l =>
    obtain ⟨q, xs, e1, e2, e3, e4, r⟩ := h
    exact ⟨q, xs, hv.trans e1, e2, e3, e4, r.mono hA (fun _ _ _ e => e)⟩
/-- a slot gets something that is no list of one's own -/
def NewOk (w : Wd) (ρ : DEnv) (σ : L2.St) (H : Hp) (v : Option V) : Slot → Prop
  | .no => True
  | .fx u => v = some u
  | .sh d => ∃ u, v = some u ∧ Rep w.k (Al w ρ σ) H u d
  | .ro d => ∃ u, v = some u ∧ Rep w.k (Fr w ρ σ) H u d
  | .ow _ => False
theorem Ok.set {i : Nat} {s : Slot} {v : Option V} (h : Ok C w ρ p σ H) (hs : NewOk w ρ σ H v s) : Ok C w (ρ.set i s) p (σ.set i v) H := by
  have hn : ∀ l, s ≠ .ow l := fun l e => by subst e; exact hs
  have own : ∀ a, OwnAt (ρ.set i s) (σ.set i v) a → OwnAt ρ σ a := fun a => OwnAt.of_set fun l e => absurd e (hn l)
  have hA : ∀ a, Al w ρ σ a → Al w (ρ.set i s) (σ.set i v) a := fun a n => ⟨n.1, n.2.1, fun o => n.2.2 (own a o)⟩
  have hF : ∀ a, Fr w ρ σ a → Fr w (ρ.set i s) (σ.set i v) a := fun a n => ⟨n.1, fun o => n.2 (own a o)⟩
  refine ⟨h.cls, h.pot, h.pgh, h.ghs, h.h0, h.h0g, h.fresh, by simpa using h.len, fun j t e => ?_, fun j m l1 l2 a e1 e2 e3 e4 => ?_, h.g0, h.g0g, h.ui⟩
  · by_cases hj : i = j
    · subst hj
      have h1 : i < ρ.length := by
        have := (List.getElem?_eq_some_iff.mp e).1
        simpa using this
      have h2 : i < σ.length := Nat.lt_of_lt_of_le h1 h.len
      rw [List.getElem?_set_self h1] at e
      cases e
      cases s with
      | no => trivial
      | fx u =>
        cases (show v = some u from hs)
        exact List.getElem?_set_self h2
      | sh d =>
        obtain ⟨u, rfl, r⟩ := hs
        exact ⟨u, List.getElem?_set_self h2, r.weak hA⟩
      | ro d =>
        obtain ⟨u, rfl, r⟩ := hs
        exact ⟨u, List.getElem?_set_self h2, r.weak hF⟩
      | ow l => exact absurd rfl (hn l)
    · rw [List.getElem?_set_ne hj] at e
      exact (h.slots j t e).mono (fun a n _ => hA a n) (fun a n _ => hF a n) (List.getElem?_set_ne hj)
  · have ne : ∀ {j l}, (ρ.set i s)[j]? = some (.ow l) → i ≠ j ∧ ρ[j]? = some (.ow l) := fun {j l} e => by
      by_cases hj : i = j
      · subst hj
        have h1 : i < ρ.length := by
          have := (List.getElem?_eq_some_iff.mp e).1
          simpa using this
        rw [List.getElem?_set_self h1] at e
        cases e
        exact absurd rfl (hn l)
      · rw [List.getElem?_set_ne hj] at e
        exact ⟨hj, e⟩
    obtain ⟨n1, q1⟩ := ne e1
    obtain ⟨n2, q2⟩ := ne e2
    rw [List.getElem?_set_ne n1] at e3
    rw [List.getElem?_set_ne n2] at e4
    exact h.apart j m l1 l2 a q1 q2 e3 e4
theorem Ok.setSh' {i : Nat} {v : V} {d : D} (h : Ok C w ρ p σ H) (r : Rep w.k (Al w ρ σ) H v d) : Ok C w (ρ.set i (.sh d)) p (σ.set i (some v)) H := h.set (s := .sh d) ⟨v, rfl, r⟩
/-- a slot gets a new list, owned -/
theorem Ok.setOw {i : Nat} {a : Addr} {xs : List V} {l : List D} (h : Ok C w ρ p σ H) (e : H a = some (.lst xs)) (e0 : w.H0 a = none) (eg : ¬ w.gh a) (hnew : ∀ j s, ρ[j]? = some s → i ≠ j → SlotOk w ρ σ H j s → SlotOk w (ρ.set i (.ow l)) (σ.set i (some (.ref a))) H j s)
    (hna : ∀ (j : Nat) m, i ≠ j → ρ[j]? = some (.ow m) → σ[j]? = some (some (.ref a)) → False)
    (r : RepAll w.k (fun b => Al w ρ σ b ∧ b ≠ a) H xs l) : Ok C w (ρ.set i (.ow l)) p (σ.set i (some (.ref a))) H := by
  refine ⟨h.cls, h.pot, h.pgh, h.ghs, h.h0, h.h0g, h.fresh, by simpa using h.len, fun j t et => ?_, fun j m l1 l2 b e1 e2 e3 e4 => ?_, h.g0, h.g0g, h.ui⟩
  · by_cases hj : i = j
    · subst hj
      have h1 : i < ρ.length := by
        have := (List.getElem?_eq_some_iff.mp et).1
        simpa using this
      have h2 : i < σ.length := Nat.lt_of_lt_of_le h1 h.len
      rw [List.getElem?_set_self h1] at et
      cases et
      refine ⟨a, xs, List.getElem?_set_self h2, e, e0, eg, r.weak fun b n => ⟨n.1.1, n.1.2.1, fun o => ?_⟩⟩
      obtain ⟨j, m, q1, q2⟩ := o
      by_cases hj : i = j
      · subst hj
        rw [List.getElem?_set_self h2] at q2
        cases q2
        exact n.2 rfl
      · rw [List.getElem?_set_ne hj] at q1 q2
        exact n.1.2.2 ⟨j, m, q1, q2⟩
    · rw [List.getElem?_set_ne hj] at et
      exact hnew j t et hj (h.slots j t et)
  · have key : ∀ {j : Nat} {l' : List D} {b : Addr}, (ρ.set i (.ow l))[j]? = some (.ow l') → (σ.set i (some (.ref a)))[j]? = some (some (.ref b)) → (i = j ∧ b = a) ∨ (i ≠ j ∧ ρ[j]? = some (.ow l') ∧ σ[j]? = some (some (.ref b))) := fun {j l' b} q1 q2 => by
      by_cases hj : i = j
      · subst hj
        have h2 : i < σ.length := by
          have := (List.getElem?_eq_some_iff.mp q2).1
          simpa using this
        rw [List.getElem?_set_self h2] at q2
        cases q2
        exact .inl ⟨rfl, rfl⟩
      · rw [List.getElem?_set_ne hj] at q1 q2
        exact .inr ⟨hj, q1, q2⟩
    rcases key e1 e3 with ⟨rfl, rfl⟩ | ⟨n1, q1, q2⟩
    · rcases key e2 e4 with ⟨rfl, _⟩ | ⟨n1, q1, q2⟩
      · rfl
      · exact (hna _ _ n1 q1 q2).elim
    · rcases key e2 e4 with ⟨rfl, rfl⟩ | ⟨n1', q1', q2'⟩
      · exact (hna _ _ n1 q1 q2).elim
      · exact h.apart j m _ _ _ q1 q1' q2 q2'
/-- .. a list that is new in the heap H' -/
theorem Ok.setNew {i : Nat} {a : Addr} {xs : List V} {l : List D} (h : Ok C w ρ p σ H) (h' : Ok C w ρ p' σ H') (n : H a = none) (e : H' a = some (.lst xs)) (ke : Keep w.k p' H H')
    (r : RepAll w.k (fun b => Al w ρ σ b ∧ b ≠ a) H' xs l) : Ok C w (ρ.set i (.ow l)) p' (σ.set i (some (.ref a))) H' := by
  have al := h.new n
  refine h'.setOw e ?_ al.2.1 (fun j s ej hj z => ?_) (fun j m hj ej es => al.2.2 ⟨j, m, ej, es⟩) r
  · cases q : w.H0 a with
    | none => rfl
    | some o => rw [h.h0 a o q] at n; cases n
  · -- what stood in H does not meet a
    have own : ∀ b, b ≠ a → OwnAt (ρ.set i (.ow l)) (σ.set i (some (.ref a))) b → OwnAt ρ σ b := fun b hb => OwnAt.of_set fun l' _ q => by cases q; exact absurd rfl hb
    have z0 := h.slots j s ej
    have kp : ∀ b o, ¬ w.gh b → H b = some o → H' b = some o := fun b o g q => ke.1 b o (h.nopot g) q
    cases s with
    | no => trivial
    | fx v =>
      have z1 : σ[j]? = some (some v) := z0
      show (σ.set i _)[j]? = _
      rw [List.getElem?_set_ne hj]
      exact z1
    | sh d =>
      obtain ⟨v, ev, rv⟩ := z0
      refine ⟨v, by rw [List.getElem?_set_ne hj]; exact ev, rv.mono (fun b nb hb => ⟨nb.1, nb.2.1, fun o => nb.2.2 (own b (fun q => hb (q ▸ n)) o)⟩) fun b o nb q => kp b o nb.2.1 q⟩
    | ro d =>
      obtain ⟨v, ev, rv⟩ := z0
      refine ⟨v, by rw [List.getElem?_set_ne hj]; exact ev, rv.mono (fun b nb hb => ⟨nb.1, fun o => nb.2 (own b (fun q => hb (q ▸ n)) o)⟩) fun b o nb q => kp b o nb.1 q⟩
    | ow m =>
      obtain ⟨q, ys, e1, e2, e3, e4, rv⟩ := z0
      refine ⟨q, ys, by rw [List.getElem?_set_ne hj]; exact e1, kp q _ e4 e2, e3, e4, rv.mono (fun b nb hb => ⟨nb.1, nb.2.1, fun o => nb.2.2 (own b (fun q => hb (q ▸ n)) o)⟩) fun b o nb q => kp b o nb.2.1 q⟩
/-- an owned list is changed -/
theorem Ok.write {i : Nat} {a : Addr} {ys : List V} {l m : List D} (h : Ok C w ρ p σ H) (ei : ρ[i]? = some (.ow l)) (es : σ[i]? = some (some (.ref a))) (r : RepAll w.k (Al w ρ σ) H ys m) :
    Ok C w (ρ.set i (.ow m)) p σ (upd H a (.lst ys)) := by
  obtain ⟨q, xs, e1, e2, e3, e4, r0⟩ := h.slots i _ ei
  rw [es] at e1
  cases e1
  have hi : i < ρ.length := (List.getElem?_eq_some_iff.mp ei).1
  have own : ∀ b, OwnAt (ρ.set i (.ow m)) σ b ↔ OwnAt ρ σ b := fun b => by
    constructor
    · rintro ⟨j, l', q1, q2⟩
      by_cases hj : i = j
      · subst hj
        rw [es] at q2
        cases q2
        exact ⟨i, l, ei, es⟩
      · rw [List.getElem?_set_ne hj] at q1
        exact ⟨j, l', q1, q2⟩
    · rintro ⟨j, l', q1, q2⟩
      by_cases hj : i = j
      · subst hj
        exact ⟨i, m, List.getElem?_set_self hi, q2⟩
      · exact ⟨j, l', by rw [List.getElem?_set_ne hj]; exact q1, q2⟩
  have oa : OwnAt ρ σ a := ⟨i, l, ei, es⟩
  have hA : ∀ b, Al w ρ σ b → Al w (ρ.set i (.ow m)) σ b := fun b n => ⟨n.1, n.2.1, fun o => n.2.2 ((own b).mp o)⟩
  have hF : ∀ b, Fr w ρ σ b → Fr w (ρ.set i (.ow m)) σ b := fun b n => ⟨n.1, fun o => n.2 ((own b).mp o)⟩
  have ne : ∀ b, ¬ OwnAt ρ σ b → b ≠ a := fun b n q => n (q ▸ oa)
  have kA : ∀ b o, Al w ρ σ b → H b = some o → upd H a (.lst ys) b = some o := fun b o n q => by rw [upd_ne (ne b n.2.2)]; exact q
  have kF : ∀ b o, Fr w ρ σ b → H b = some o → upd H a (.lst ys) b = some o := fun b o n q => by rw [upd_ne (ne b n.2)]; exact q
  refine ⟨h.cls, ?_, h.pgh, fun b g => ?_, fun b o q => ?_, h.h0g, h.fresh, by simpa using h.len, fun j s ej => ?_, fun j j' l1 l2 b q1 q2 q3 q4 => ?_, fun b o q => ?_, h.g0g, fun b dx fs q => ?_⟩
  · rw [upd_ne (fun q : w.k.pa = a => e4 (q ▸ h.pgh))]; exact h.pot
  · rw [upd_ne (fun q : b = a => e4 (q ▸ g))]; exact h.ghs b g
  · rw [upd_ne (fun z => by rw [z, e3] at q; cases q)]; exact h.h0 b o q
  · by_cases hj : i = j
    · subst hj
      rw [List.getElem?_set_self hi] at ej
      cases ej
      exact ⟨a, ys, es, upd_same, e3, e4, (r.weak hA).keep fun b o n q => by rw [upd_ne (ne b fun z => n.2.2 ((own b).mpr z))]; exact q⟩
    · rw [List.getElem?_set_ne hj] at ej
      have z := h.slots j s ej
      cases s with
      | no => trivial
      | fx v => exact z
      | sh d =>
        obtain ⟨v, ev, rv⟩ := z
        exact ⟨v, ev, rv.mono (fun b n _ => hA b n) kA⟩
      | ro d =>
        obtain ⟨v, ev, rv⟩ := z
        exact ⟨v, ev, rv.mono (fun b n _ => hF b n) kF⟩
      | ow l' =>
        obtain ⟨q, zs, f1, f2, f3, f4, rv⟩ := z
        refine ⟨q, zs, f1, ?_, f3, f4, rv.mono (fun b n _ => hA b n) kA⟩
        rw [upd_ne (fun z => hj (h.apart i j l l' a ei ej es (by rw [f1, z])))]
        exact f2
  · have key : ∀ {j : Nat} {l' : List D}, (ρ.set i (.ow m))[j]? = some (.ow l') → ∃ l'', ρ[j]? = some (.ow l'') := fun {j l'} q => by
      by_cases hj : i = j
      · subst hj; exact ⟨l, ei⟩
      · rw [List.getElem?_set_ne hj] at q; exact ⟨l', q⟩
    obtain ⟨_, z1⟩ := key q1
    obtain ⟨_, z2⟩ := key q2
    exact h.apart j j' _ _ b z1 z2 q3 q4
  · rw [upd_ne (fun z : b = a => e4 (z ▸ (h.g0g b o q).1))]; exact h.g0 b o q
  · by_cases hb : b = a
    · subst hb; rw [upd_same] at q; cases q
    · rw [upd_ne hb] at q; exact h.ui b dx fs q
/-- an owned list is shared from now on -/
def rel (i : Nat) (ρ : DEnv) : DEnv := match ρ[i]? with
  | some (.ow l) => ρ.set i (.sh (.lst l))
  | _ => ρ
theorem Ok.rel {i : Nat} (h : Ok C w ρ p σ H) : Ok C w (rel i ρ) p σ H := by
  unfold DL.rel
  split
  · rename_i l e
    obtain ⟨a, xs, e1, e2, e3, e4, r⟩ := h.slots i _ e
    have hi : i < ρ.length := (List.getElem?_eq_some_iff.mp e).1
    have own : ∀ b, OwnAt (ρ.set i (.sh (.lst l))) σ b → OwnAt ρ σ b ∧ b ≠ a := fun b ⟨j, l', q1, q2⟩ => by
      by_cases hj : i = j
      · subst hj
        rw [List.getElem?_set_self hi] at q1
        cases q1
      · rw [List.getElem?_set_ne hj] at q1
        exact ⟨⟨j, l', q1, q2⟩, fun z => hj (h.apart i j _ _ a e q1 e1 (z ▸ q2))⟩
    have hA : ∀ b, Al w ρ σ b → Al w (ρ.set i (.sh (.lst l))) σ b := fun b n => ⟨n.1, n.2.1, fun o => n.2.2 (own b o).1⟩
    have hF : ∀ b, Fr w ρ σ b → Fr w (ρ.set i (.sh (.lst l))) σ b := fun b n => ⟨n.1, fun o => n.2 (own b o).1⟩
    refine ⟨h.cls, h.pot, h.pgh, h.ghs, h.h0, h.h0g, h.fresh, by simpa using h.len, fun j s ej => ?_, fun j j' l1 l2 b q1 q2 q3 q4 => ?_, h.g0, h.g0g, h.ui⟩
    · by_cases hj : i = j
      · subst hj
        rw [List.getElem?_set_self hi] at ej
        cases ej
        exact ⟨.ref a, e1, .lst ⟨h.fresh a e3, e4, fun o => (own a o).2 rfl⟩ e2 (r.weak hA)⟩
      · rw [List.getElem?_set_ne hj] at ej
        exact (h.slots j s ej).mono (fun b n _ => hA b n) (fun b n _ => hF b n) rfl
    · have key : ∀ {j : Nat} {l' : List D}, (ρ.set i (.sh (.lst l)))[j]? = some (.ow l') → ρ[j]? = some (.ow l') := fun {j l'} q => by
        by_cases hj : i = j
        · subst hj
          rw [List.getElem?_set_self hi] at q
          cases q
        · rw [List.getElem?_set_ne hj] at q; exact q
      exact h.apart j j' _ _ b (key q1) (key q2) q3 q4
  · exact h
end DL
namespace DL
open PySem PySem.Spec PyProof.Rows L2
variable {k : Kx} {N N' : Addr → Prop} {H H' H1 H2 : Hp} {w : Wd} {ρ ρ' : DEnv} {σ σ' : L2.St} {p p' p1 p2 : Pot} {X : Cx} {C : Addr}

/-! ### targets -/
abbrev TgF := DEnv → D → Option DEnv
def slotOf (m : Mo) (d : D) : Slot := match m with
  | .al => .sh d
  | _ => .ro d
/-- names bound one after another -/
def bindAll (m : Mo) : List Nat → List D → DEnv → Option DEnv
  | [], [], ρ => some ρ
  | i :: is, d :: ds, ρ => bindAll m is ds (ρ.set i (slotOf m d))
  | _, _, _ => none
def tgName (m : Mo) (i : Nat) : TgF := fun ρ d => some (ρ.set i (slotOf m d))
def tgTup (m : Mo) (is : List Nat) : TgF := fun ρ d => match d with
  | .tup ds => bindAll m is ds ρ
  | _ => none
/-- modes of what slots may hold -/
def Mo.slot : Mo → Bool
  | .rd => false
  | _ => true
theorem newOk_slot {m : Mo} {d : D} {v : V} (hm : m.slot = true) (r : Rep w.k (Md m w ρ σ) H v d) : NewOk w ρ σ H (some v) (slotOf m d) := by
  cases m with
  | al => exact ⟨v, rfl, r⟩
  | fr => exact ⟨v, rfl, r⟩
  | rd => cases hm
def tDG (C : Addr) (m : Mo) (is : List Nat) (t : TgF) : TG := fun v σ H Q => ∃ w ρ p d ρ', Ok C w ρ p σ H ∧ Rep w.k (Md m w ρ σ) H v d ∧ t ρ d = some ρ' ∧ ∀ σ', Ok C w ρ' p σ' H → (∀ vs, (∀ i ∈ is, i ∈ vs) → wipe σ' vs = wipe σ vs) → Q σ' H
def DG (X : Cx) (m : Mo) (tg : Expr) (is : List Nat) (t : TgF) : Prop := PG X tg (tDG (clsOf X) m is t)
theorem PG.weak {e : Expr} {t t' : TG} (h : PG X e t) (i : ∀ v σ H Q, t' v σ H Q → t v σ H Q) : PG X e t' := ⟨fun pins s σ H v u Q I r q => h.run pins s σ H v u Q I r (i _ _ _ _ q)⟩
theorem PGs.weak {e : List Expr} {t t' : TGs} (h : PGs X e t) (i : ∀ v σ H Q, t' v σ H Q → t v σ H Q) : PGs X e t' := ⟨fun pins s σ H v u Q I r q => h.run pins s σ H v u Q I r (i _ _ _ _ q)⟩
theorem wipe_set {i : Nat} {v : Option V} : ∀ {vs : List Nat}, i ∈ vs → wipe (σ.set i v) vs = wipe σ vs
  | [], h => by cases h
  | j :: vs, h => by
    unfold wipe
    by_cases hv : i ∈ vs
    · rw [wipe_set hv]
    · have hj : i = j := by
        rcases List.mem_cons.mp h with e | e
        · exact e
        · exact absurd e hv
      subst hj
      have key : ∀ {us : List Nat}, i ∉ us → wipe (σ.set i v) us = (wipe σ us).set i v := fun {us} => by
        induction us with
        | nil => intro _; rfl
        | cons u us ih =>
          intro hn
          have h1 : i ≠ u := fun e => hn (e ▸ List.mem_cons_self)
          have h2 : i ∉ us := fun e => hn (List.mem_cons_of_mem _ e)
          show (wipe (σ.set i v) us).set u none = ((wipe σ us).set u none).set i v
          rw [ih h2, List.set_comm _ _ h1]
      rw [key hv, List.set_set]
theorem dg_name {m : Mo} {tg : Expr} {i : Nat} (h : PG X tg (gName i)) (hm : m.slot = true := by rfl) : DG X m tg [i] (tgName m i) := by
  refine PG.weak h fun v σ H Q ⟨w, ρ, p, d, ρ', ok, r, e, q⟩ => ?_
  cases e
  exact q _ (ok.set (newOk_slot hm r)) fun vs hv => wipe_set (hv i (by simp))
/-- a list of names, by gCons -/
def tDGs (C : Addr) (m : Mo) (is : List Nat) : TGs := fun vs σ H Q => ∃ w ρ p ds ρ', Ok C w ρ p σ H ∧ RepAll w.k (Md m w ρ σ) H vs ds ∧ bindAll m is ds ρ = some ρ' ∧ ∀ σ', Ok C w ρ' p σ' H → (∀ vs, (∀ i ∈ is, i ∈ vs) → wipe σ' vs = wipe σ vs) → Q σ' H
def DGs (X : Cx) (m : Mo) (tgs : List Expr) (is : List Nat) : Prop := PGs X tgs (tDGs (clsOf X) m is)
theorem Md.set {m : Mo} {s : Slot} {i : Nat} {v : Option V} {a : Addr} (hn : ∀ l, s ≠ .ow l) (h : Md m w ρ σ a) : Md m w (ρ.set i s) (σ.set i v) a := by
  have own : OwnAt (ρ.set i s) (σ.set i v) a → OwnAt ρ σ a := OwnAt.of_set fun l e => absurd e (hn l)
  cases m with
  | al => exact ⟨h.1, h.2.1, fun o => h.2.2 (own o)⟩
  | fr => exact ⟨h.1, fun o => h.2 (own o)⟩
  | rd => exact h
theorem slotOf_no {m : Mo} {d : D} : ∀ l, slotOf m d ≠ .ow l := fun l e => by cases m <;> cases e
theorem dgs_nil {m : Mo} : DGs X m [] [] := by
  refine PGs.weak pgs_nil fun vs σ H Q ⟨w, ρ, p, ds, ρ', ok, r, e, q⟩ => ?_
  cases ds with
  | nil =>
    cases r
    cases e
    exact ⟨rfl, q σ ok fun _ _ => rfl⟩
  | cons d ds => cases e
theorem dgs_cons {m : Mo} {e : Expr} {es : List Expr} {i : Nat} {is : List Nat} (h1 : PG X e (gName i)) (h2 : DGs X m es is) (hm : m.slot = true := by rfl)
    (hs : (assignEach (e :: es) X.env).map (·.2) = assign e X.env :: (assignEach es X.env).map (·.2) := by rfl) : DGs X m (e :: es) (i :: is) := by
  refine PGs.weak (pgs_cons h1 h2 hs) fun vs σ H Q ⟨w, ρ, p, ds, ρ', ok, r, e, q⟩ => ?_
  cases r with
  | nil => cases e
  | cons r rr =>
    refine ⟨_, _, rfl, w, _, p, _, ρ', ok.set (newOk_slot hm r), rr.weak fun a n => Md.set slotOf_no n, e, fun σ' o2 hw => ?_⟩
    refine q σ' o2 fun vs hv => ?_
    rw [hw vs fun j hj => hv j (List.mem_cons_of_mem _ hj), wipe_set (hv i List.mem_cons_self)]
theorem dg_tup {m : Mo} {es : List Expr} {kk : Nat} {is : List Nat} {pos : Pos} (hc : X.calm = true) (h : DGs X m es is)
    (hn : (assignEach es X.env).length = is.length := by rfl) (hst : (assignEach es X.env).findIdx? (·.1) = none := by rfl) : DG X m (.Tuple es kk pos) is (tgTup m is) := by
  refine PG.weak (pg_tup (n := is.length) hc h hn hst) fun v σ H Q ⟨w, ρ, p, d, ρ', ok, r, e, q⟩ => ?_
  cases d <;> first | cases e | skip
  cases r with
  | tup n e1 rr =>
    have hl : ∀ (is : List Nat) (ds : List D) (ρ : DEnv), bindAll m is ds ρ = some ρ' → ds.length = is.length := by
      intro is
      induction is with
      | nil => intro ds ρ h; cases ds with
        | nil => rfl
        | cons _ _ => cases h
      | cons i is ih => intro ds ρ h; cases ds with
        | nil => cases h
        | cons d ds => simp [ih _ _ h]
    exact ⟨_, _, rfl, SqT.of e1, by rw [rr.length]; exact hl _ _ _ e, w, ρ, p, _, ρ', ok, rr, e, q⟩

/-! ### what is walked -/
/-- a list that is read: its spine anywhere but at ghosts (sf: nor at owned lists), its items by m -/
abbrev LF := DEnv → Pot → Option (List D × Pot)
def tSrc (C : Addr) (sf : Bool) (m : Mo) (h : LF) : TE := fun σ H Q => ∃ w ρ p, Ok C w ρ p σ H ∧ ∃ ds p', h ρ p = some (ds, p') ∧ ∀ a xs H', Keep w.k p' H H' → H' a = some (.lst xs) → ¬ w.gh a → (sf = true → ¬ OwnAt ρ σ a) → RepAll w.k (Md m w ρ σ) H' xs ds → Q (.ref a) H'
def DSrc (X : Cx) (sf : Bool) (m : Mo) (e : Expr) (h : LF) : Prop := PE X e (tSrc (clsOf X) sf m h)
def lOf (f : EF) : LF := fun ρ p => (f ρ p).bind fun x => match x.1 with
  | .lst l => some (l, x.2)
  | _ => none
theorem lOf_some {f : EF} {l : List D} (h : lOf f ρ p = some (l, p')) : f ρ p = some (.lst l, p') := by
  unfold lOf at h
  cases e1 : f ρ p with
  | none => rw [e1] at h; cases h
  | some x =>
    obtain ⟨d, p1⟩ := x
    rw [e1] at h
    simp only [Option.bind_some] at h
    cases d <;> first | cases h | skip
    rfl
theorem dsrc {m : Mo} {sf : Bool} {e : Expr} {f : EF} (h : DE X m e f) (hs : sf = true → m.slot = true := by intro _; rfl) : DSrc X sf m e (lOf f) := by
  refine PE.weak h fun σ H Q ⟨w, ρ, p, ok, ds, p', e, q⟩ => ⟨w, ρ, p, ok, _, p', lOf_some e, fun v H' k1 r => ?_⟩
  cases r with
  | lst n e1 rr =>
    refine q _ _ H' k1 e1 n.nog (fun z => ?_) rr
    cases m with
    | al => exact n.2.2
    | fr => exact n.2
    | rd => cases hs z
def lOwn (i : Nat) : LF := fun ρ p => match ρ[i]? with
  | some (.ow l) => some (l, p)
  | _ => none
theorem dsrc_own {e : Expr} {i : Nat} (h : PE X e (tVar i)) : DSrc X false .al e (lOwn i) := by
  refine PE.weak h fun σ H Q ⟨w, ρ, p, ok, ds, p', e, q⟩ => ?_
  unfold lOwn at e
  split at e
  · rename_i l hs
    cases e
    obtain ⟨b, xs, e1, e2, e3, e4, r⟩ := ok.slots i _ hs
    exact ⟨_, e1, q b xs H (Keep.refl ok) e2 e4 (fun z => nomatch z) r⟩
  · cases e

/-- the iterator J gives the data ds, while Hf stands; its items are in S or new -/
structure Walk (k : Kx) (J : It) (ds : List D) (Hf : Hp) (S : Addr → Prop) : Prop where
  go : ∀ i H, i < ds.length → (∀ a o, Hf a = some o → H a = some o) → J.go i H
  yld : ∀ i H x H' d, ds[i]? = some d → (∀ a o, Hf a = some o → H a = some o) → J.yld i H x H' → (∀ a o, H a = some o → H' a = some o) ∧ Rep k (fun b => (S b ∧ Hf b ≠ none) ∨ H b = none) H' x d
  stop : ∀ i H, ds.length ≤ i → (∀ a o, Hf a = some o → H a = some o) → J.stop i H
/-- sf: the walk leans on nothing that is owned -/
def tDI (C : Addr) (sf : Bool) (m : Mo) (h : LF) : TI := fun σ H R => ∃ w ρ p, Ok C w ρ p σ H ∧ ∃ ds p', h ρ p = some (ds, p') ∧ ∀ J H' Hf, Keep w.k p' H H' → (∀ a o, Hf a = some o → H' a = some o) → (∀ a o, Hf a = some o → ¬ w.gh a ∧ (sf = true → ¬ OwnAt ρ σ a)) → Walk w.k J ds Hf (Md m w ρ σ) → R J H'
def DI (X : Cx) (sf : Bool) (m : Mo) (tg e : Expr) (h : LF) : Prop := PI X tg e (tDI (clsOf X) sf m h)
/-- the heap where nothing is owned (nor a ghost) -/
noncomputable def part (H : Hp) (S : Addr → Prop) : Hp := fun a => open Classical in if S a then H a else none
theorem part_some {S : Addr → Prop} {a : Addr} {o : HO} : part H S a = some o ↔ S a ∧ H a = some o := by
  unfold part
  split
  · rename_i h; simp [h]
  · rename_i h; simp [h]
theorem rep_part {m : Mo} {S S' : Addr → Prop} {d : D} {v : V} (hS : ∀ a, S a → S' a) (r : Rep k S H v d) : Rep k S (part H S') v d := r.keep fun a o n e => part_some.mpr ⟨hS a n, e⟩
theorem repAll_part {S S' : Addr → Prop} {d : List D} {v : List V} (hS : ∀ a, S a → S' a) (r : RepAll k S H v d) : RepAll k S (part H S') v d := r.keep fun a o n e => part_some.mpr ⟨hS a n, e⟩
/-- from what stands in Hf to a later heap -/
theorem Rep.later {S : Addr → Prop} {Hf H : Hp} {d : D} {v : V} (hf : ∀ a o, Hf a = some o → H a = some o) (r : Rep k S Hf v d) : Rep k (fun b => (S b ∧ Hf b ≠ none) ∨ H b = none) H v d :=
  Rep.mono (N' := fun b => (S b ∧ Hf b ≠ none) ∨ H b = none) (fun a n h => .inl ⟨n, h⟩) (fun a o _ e => hf a o e) d r
theorem walk_list {K : PySem.W.Frag} {a : Addr} {xs : List V} {ds : List D} {Hf : Hp} {S : Addr → Prop} (e : Hf a = some (.lst xs)) (r : RepAll k S Hf xs ds) : Walk k (Itl K a) ds Hf S where
  go := fun i H hi hf => by
    have hx : i < xs.length := by rw [r.length]; exact hi
    exact ⟨xs, xs[i], SqL.of (hf a _ e), List.getElem?_eq_getElem hx⟩
  yld := fun i H x H' d hd hf y => by
    obtain ⟨rfl, y⟩ := y
    have hx := y xs (SqL.of (hf a _ e))
    obtain ⟨v, ev, rv⟩ := r.get hd
    rw [hx] at ev
    cases ev
    exact ⟨fun _ _ e => e, rv.later hf⟩
  stop := fun i H hi hf => ⟨xs, SqL.of (hf a _ e), by rw [r.length]; exact hi⟩
theorem Md.sub {m : Mo} {sf : Bool} (hs : sf = true → m.slot = true) {a : Addr} (h : Md m w ρ σ a) : ¬ w.gh a ∧ (sf = true → ¬ OwnAt ρ σ a) := by
  refine ⟨h.nog, fun z => ?_⟩
  cases m with
  | al => exact h.2.2
  | fr => exact h.2
  | rd => cases hs z
theorem di_list {sf : Bool} {m : Mo} {tg e : Expr} {h : LF} (he : DSrc X sf m e h) (hs : sf = true → m.slot = true := by intro _; rfl) : DI X sf m tg e h := by
  refine PI.weak (pi_list he) fun σ H R ⟨w, ρ, p, ok, ds, p', eh, q⟩ => ⟨w, ρ, p, ok, ds, p', eh, fun a xs H' k1 e1 g o r => ?_⟩
  refine ⟨a, rfl, ⟨xs, SqL.of e1⟩, q _ H' (part H' fun b => ¬ w.gh b ∧ (sf = true → ¬ OwnAt ρ σ b)) k1 (fun b u z => (part_some.mp z).2) (fun b u z => (part_some.mp z).1) (walk_list (xs := xs) (part_some.mpr ⟨⟨g, o⟩, e1⟩) (repAll_part (fun b n => Md.sub hs n) r))⟩
def dInts (lo : Int) (n : Nat) : List D := (List.range n).map fun i => D.int (lo + (i : Nat))
theorem walk_range {lo : Int} {n : Nat} {Hf : Hp} {S : Addr → Prop} : Walk k (Itr lo n) (dInts lo n) Hf S where
  go := fun i H hi _ => by simpa [dInts, Itr] using hi
  yld := fun i H x H' d hd _ y => by
    obtain ⟨rfl, rfl⟩ := y
    simp only [dInts, List.getElem?_map] at hd
    cases q : (List.range n)[i]? with
    | none => rw [q] at hd; cases hd
    | some j =>
      rw [q] at hd
      cases hd
      have : j = i := by
        have := List.getElem?_eq_some_iff.mp q
        obtain ⟨_, e⟩ := this
        simpa using e.symm
      subst this
      exact ⟨fun _ _ e => e, .int _⟩
  stop := fun i H hi _ => by simpa [dInts, Itr] using hi
def lRange1 (g : AF) : LF := fun ρ p => (g ρ p).bind fun x => match x.1 with
  | [.int n] => if -65536 < n ∧ n < 65536 then some (dInts 0 n.toNat, x.2) else none
  | _ => none
def lRange2 (g : AF) : LF := fun ρ p => (g ρ p).bind fun x => match x.1 with
  | [.int a, .int b] => if -65536 < a ∧ a < 65536 ∧ -65536 < b ∧ b < 65536 then some (dInts a (b - a).toNat, x.2) else none
  | _ => none
theorem di_range1 {sf : Bool} {m m' : Mo} {tg a : Expr} {g : AF} {pp pos : Pos} (hg : Gl X "range") (hm : X.mg "range" = none) (ha : DA X m' [a] g) (hs : starEach [a] X.env = [(false, eval a X.env)] := by rfl) : DI X sf m tg (.Call (.Name "range" pp) [a] [] pos) (lRange1 g) := by
  refine PI.weak (pi_range1 hg hm ha hs) fun σ H R ⟨w, ρ, p, ok, ds, p', eh, q⟩ => ?_
  unfold lRange1 at eh
  cases e1 : g ρ p with
  | none => rw [e1] at eh; cases eh
  | some x =>
    obtain ⟨as, p1⟩ := x
    rw [e1] at eh
    simp only [Option.bind_some] at eh
    split at eh
    · rename_i n
      split at eh
      · rename_i hn
        cases eh
        refine ⟨w, ρ, p, ok, _, _, e1, fun vs H1 k1 r1 => ?_⟩
        cases r1 with
        | cons r rr =>
          cases rr
          cases r
          exact ⟨n, rfl, by omega, by omega, q _ H1 (fun _ => none) k1 (fun _ _ z => nomatch z) (fun _ _ z => nomatch z) walk_range⟩
      · cases eh
    · cases eh
theorem di_range2 {sf : Bool} {m m' : Mo} {tg a b : Expr} {g : AF} {pp pos : Pos} (hg : Gl X "range") (hm : X.mg "range" = none) (ha : DA X m' [a, b] g) (hs : starEach [a, b] X.env = [(false, eval a X.env), (false, eval b X.env)] := by rfl) (hs2 : starEach [b] X.env = [(false, eval b X.env)] := by rfl) : DI X sf m tg (.Call (.Name "range" pp) [a, b] [] pos) (lRange2 g) := by
  refine PI.weak (pi_range2 hg hm ha hs hs2) fun σ H R ⟨w, ρ, p, ok, ds, p', eh, q⟩ => ?_
  unfold lRange2 at eh
  cases e1 : g ρ p with
  | none => rw [e1] at eh; cases eh
  | some x =>
    obtain ⟨as, p1⟩ := x
    rw [e1] at eh
    simp only [Option.bind_some] at eh
    split at eh
    · rename_i a' b'
      split at eh
      · rename_i hn
        cases eh
        refine ⟨w, ρ, p, ok, _, _, e1, fun vs H1 k1 r1 => ?_⟩
        cases r1 with
        | cons r rr =>
          cases rr with
          | cons r' rr =>
            cases rr
            cases r
            cases r'
            exact ⟨a', b', rfl, by omega, q _ H1 (fun _ => none) k1 (fun _ _ z => nomatch z) (fun _ _ z => nomatch z) walk_range⟩
      · cases eh
    · cases eh
/-- enumerate -/
def lEnum (h : LF) : LF := fun ρ p => (h ρ p).map fun x => (x.1.zipIdx.map fun y => D.tup [.int (y.2 : Nat), y.1], x.2)
theorem walk_enum {K : PySem.W.Frag} {a : Addr} {xs : List V} {ds : List D} {Hf : Hp} {S : Addr → Prop} (e : Hf a = some (.lst xs)) (r : RepAll k S Hf xs ds) : Walk k (Ite K a) (ds.zipIdx.map fun y => D.tup [.int (y.2 : Nat), y.1]) Hf S where
  go := fun i H hi hf => by
    have hx : i < xs.length := by rw [r.length]; simpa using hi
    exact ⟨xs, xs[i], SqL.of (hf a _ e), List.getElem?_eq_getElem hx⟩
  yld := fun i H x H' d hd hf y => by
    obtain ⟨T, z, rfl, hT, rfl, y⟩ := y
    have hx := y xs (SqL.of (hf a _ e))
    obtain ⟨d', ed, rd⟩ := r.getV hx
    have : d = D.tup [.int (i : Nat), d'] := by
      simp only [List.getElem?_map, List.getElem?_zipIdx, ed] at hd
      simpa using hd.symm
    subst this
    refine ⟨fun b o q => by rw [upd_ne (ne_of_none q hT)]; exact q, .tup (.inr hT) upd_same (.cons (.int _) (.cons ?_ .nil))⟩
    exact (rd.later hf).keep fun b o n q => by rw [upd_ne (ne_of_none q hT)]; exact q
  stop := fun i H hi hf => ⟨xs, SqL.of (hf a _ e), by rw [r.length]; simpa using hi⟩
theorem di_enum {sf : Bool} {m : Mo} {e : Expr} {h : LF} {pp pos tpos : Pos} {elts : List Expr} {kk : Nat} (hg : Gl X "enumerate") (hm : X.mg "enumerate" = none) (he : DSrc X sf m e h) (hsl : sf = true → m.slot = true := by intro _; rfl) (hs : starEach [e] X.env = [(false, eval e X.env)] := by rfl) (hs1 : starEach [e] X.env = (false, eval e X.env) :: starEach [] X.env := by rfl) :
    DI X sf m (.Tuple elts kk tpos) (.Call (.Name "enumerate" pp) [e] [] pos) (lEnum h) := by
  refine PI.weak (pi_enum hg hm (pa_cons he pa_nil hs1) hs) fun σ H R ⟨w, ρ, p, ok, ds, p', eh, q⟩ => ?_
  unfold lEnum at eh
  cases e1 : h ρ p with
  | none => rw [e1] at eh; cases eh
  | some x =>
    obtain ⟨l, p1⟩ := x
    rw [e1] at eh
    cases eh
    refine ⟨w, ρ, p, ok, l, p1, e1, fun a xs H' k1 ea g o r => ⟨a, xs, rfl, SqL.of ea, ?_⟩⟩
    exact q _ H' (part H' fun b => ¬ w.gh b ∧ (sf = true → ¬ OwnAt ρ σ b)) k1 (fun b u z => (part_some.mp z).2) (fun b u z => (part_some.mp z).1) (walk_enum (part_some.mpr ⟨⟨g, o⟩, ea⟩) (repAll_part (fun b n => Md.sub hsl n) r))
/-- zip of two lists -/
def lZip (h g : LF) : LF := fun ρ p => (h ρ p).bind fun x => (g ρ x.2).map fun y => ((x.1.zip y.1).map fun z => D.tup [z.1, z.2], y.2)
theorem walk_zip {K : PySem.W.Frag} {a b : Addr} {xs ys : List V} {ds es : List D} {Hf : Hp} {S : Addr → Prop} (e : Hf a = some (.lst xs)) (e2 : Hf b = some (.lst ys)) (r : RepAll k S Hf xs ds) (r2 : RepAll k S Hf ys es) : Walk k (Itz K a b) ((ds.zip es).map fun z => D.tup [z.1, z.2]) Hf S where
  go := fun i H hi hf => by
    simp only [List.length_map, List.length_zip] at hi
    have hx : i < xs.length := by rw [r.length]; omega
    have hy : i < ys.length := by rw [r2.length]; omega
    exact ⟨xs, ys, xs[i], ys[i], SqL.of (hf a _ e), SqL.of (hf b _ e2), List.getElem?_eq_getElem hx, List.getElem?_eq_getElem hy⟩
  yld := fun i H x H' d hd hf y => by
    obtain ⟨T, z, u, rfl, hT, rfl, y1, y2⟩ := y
    have hx := y1 xs (SqL.of (hf a _ e))
    have hy := y2 ys (SqL.of (hf b _ e2))
    obtain ⟨d1, ed, rd⟩ := r.getV hx
    obtain ⟨d2, ed2, rd2⟩ := r2.getV hy
    have : d = D.tup [d1, d2] := by
      have hz : (ds.zip es)[i]? = some (d1, d2) := List.getElem?_zip_eq_some.mpr ⟨ed, ed2⟩
      simp only [List.getElem?_map, hz] at hd
      simpa using hd.symm
    subst this
    refine ⟨fun b o q => by rw [upd_ne (ne_of_none q hT)]; exact q, .tup (.inr hT) upd_same (.cons ?_ (.cons ?_ .nil))⟩
    · exact (rd.later hf).keep fun b o n q => by rw [upd_ne (ne_of_none q hT)]; exact q
    · exact (rd2.later hf).keep fun b o n q => by rw [upd_ne (ne_of_none q hT)]; exact q
  stop := fun i H hi hf => by
    simp only [List.length_map, List.length_zip] at hi
    refine ⟨xs, ys, SqL.of (hf a _ e), SqL.of (hf b _ e2), ?_⟩
    rw [r.length, r2.length]
    omega
theorem di_zip {sf : Bool} {m : Mo} {e e2 : Expr} {h g : LF} {pp pos tpos : Pos} {elts : List Expr} {kk : Nat} (hg : Gl X "zip") (hm : X.mg "zip" = none) (he : DSrc X sf m e h) (he2 : DSrc X sf m e2 g) (hsl : sf = true → m.slot = true := by intro _; rfl)
    (hs : starEach [e, e2] X.env = (false, eval e X.env) :: starEach [e2] X.env := by rfl) (hpl : (backTo pos (starEach [e2] X.env)).any (·.1) = false := by rfl) (hs1 : starEach [e2] X.env = (false, eval e2 X.env) :: starEach [] X.env := by rfl) :
    DI X sf m (.Tuple elts kk tpos) (.Call (.Name "zip" pp) [e, e2] [] pos) (lZip h g) := by
  refine PI.weak (pi_zip hg hm (pa_cons he (pa_cons he2 pa_nil hs1) hs) hs hpl) fun σ H R ⟨w, ρ, p, ok, ds, p', eh, q⟩ => ?_
  unfold lZip at eh
  cases e1 : h ρ p with
  | none => rw [e1] at eh; cases eh
  | some x =>
    obtain ⟨l, p1⟩ := x
    rw [e1] at eh
    simp only [Option.bind_some] at eh
    cases e2 : g ρ p1 with
    | none => rw [e2] at eh; cases eh
    | some y =>
      obtain ⟨l2, p2⟩ := y
      rw [e2] at eh
      cases eh
      refine ⟨w, ρ, p, ok, l, p1, e1, fun a xs H1 k1 ea g1 o1 r1 => ⟨w, ρ, p1, ok.keep k1, l2, p2, e2, fun b ys H2 k2 eb g2 o2 r2 => ⟨a, b, xs, ys, rfl, ?_, SqL.of eb, ?_⟩⟩⟩
      · exact SqL.of (k2.1 a _ ((ok.keep k1).nopot g1) ea)
      · refine q _ H2 (part H2 fun b => ¬ w.gh b ∧ (sf = true → ¬ OwnAt ρ σ b)) (k1.trans k2) (fun b u z => (part_some.mp z).2) (fun b u z => (part_some.mp z).1) (walk_zip (part_some.mpr ⟨⟨g1, o1⟩, k2.1 a _ ((ok.keep k1).nopot g1) ea⟩) (part_some.mpr ⟨⟨g2, o2⟩, eb⟩) (repAll_part (fun b n => Md.sub hsl n) (r1.on (ok.keep k1) k2)) (repAll_part (fun b n => Md.sub hsl n) r2))
/-- a tuple that is walked -/
def tOfD (f : EF) : LF := fun ρ p => (f ρ p).bind fun x => match x.1 with
  | .tup l => some (l, x.2)
  | _ => none
theorem walk_tup {K : PySem.W.Frag} {a : Addr} {xs : List V} {ds : List D} {Hf : Hp} {S : Addr → Prop} (e : Hf a = some (.tup xs)) (r : RepAll k S Hf xs ds) : Walk k (Itt K a) ds Hf S where
  go := fun i H hi hf => by
    have hx : i < xs.length := by rw [r.length]; exact hi
    exact ⟨xs, xs[i], SqT.of (hf a _ e), List.getElem?_eq_getElem hx⟩
  yld := fun i H x H' d hd hf y => by
    obtain ⟨rfl, y⟩ := y
    have hx := y xs (SqT.of (hf a _ e))
    obtain ⟨v, ev, rv⟩ := r.get hd
    rw [hx] at ev
    cases ev
    exact ⟨fun _ _ e => e, rv.later hf⟩
  stop := fun i H hi hf => ⟨xs, SqT.of (hf a _ e), by rw [r.length]; exact hi⟩
theorem di_tup {sf : Bool} {m : Mo} {tg e : Expr} {f : EF} (he : DE X m e f) (hs : sf = true → m.slot = true := by intro _; rfl) : DI X sf m tg e (tOfD f) := by
  refine PI.weak (pi_tup he) fun σ H R ⟨w, ρ, p, ok, ds, p', eh, q⟩ => ?_
  unfold tOfD at eh
  cases e1 : f ρ p with
  | none => rw [e1] at eh; cases eh
  | some x =>
    obtain ⟨d, p1⟩ := x
    rw [e1] at eh
    simp only [Option.bind_some] at eh
    cases d <;> first | cases eh | skip
    refine ⟨w, ρ, p, ok, _, p', e1, fun v H' k1 r => ?_⟩
    cases r with
    | tup n ea rr =>
      exact ⟨_, rfl, ⟨_, SqT.of ea⟩, q _ H' (part H' fun b => ¬ w.gh b ∧ (sf = true → ¬ OwnAt ρ σ b)) k1 (fun b u z => (part_some.mp z).2) (fun b u z => (part_some.mp z).1) (walk_tup (part_some.mpr ⟨Md.sub hs n, ea⟩) (repAll_part (fun b n => Md.sub hs n) rr))⟩
end DL
namespace DL
open PySem PySem.Spec PyProof.Rows L2
variable {k : Kx} {N N' : Addr → Prop} {H H' H1 H2 : Hp} {w : Wd} {ρ ρ' : DEnv} {σ σ' : L2.St} {p p' p1 p2 : Pot} {X : Cx} {C : Addr}

/-! ### new lists -/
/-- an expression that hands back a new list -/
def tDN (C : Addr) (m : Mo) (f : LF) : TE := fun σ H Q => ∃ w ρ p, Ok C w ρ p σ H ∧ ∃ ds p', f ρ p = some (ds, p') ∧ ∀ a xs H', Keep w.k p' H H' → H a = none → H' a = some (.lst xs) → RepAll w.k (fun b => Md m w ρ σ b ∧ b ≠ a) H' xs ds → Q (.ref a) H'
def DN (X : Cx) (m : Mo) (e : Expr) (f : LF) : Prop := PE X e (tDN (clsOf X) m f)
def eL (f : LF) : EF := fun ρ p => (f ρ p).map fun x => (.lst x.1, x.2)
theorem eL_some {f : LF} {d : D} (h : eL f ρ p = some (d, p')) : ∃ l, d = .lst l ∧ f ρ p = some (l, p') := by
  unfold eL at h
  cases e1 : f ρ p with
  | none => rw [e1] at h; cases h
  | some x =>
    rw [e1] at h
    cases h
    exact ⟨_, rfl, rfl⟩
theorem de_new {m : Mo} {e : Expr} {f : LF} (h : DN X m e f) : DE X m e (eL f) := by
  refine PE.weak h fun σ H Q ⟨w, ρ, p, ok, d, p', e, q⟩ => ?_
  obtain ⟨l, rfl, e1⟩ := eL_some e
  exact ⟨w, ρ, p, ok, l, p', e1, fun a xs H' k1 n ea r => q _ H' k1 (.lst (Md.al (ok.new n)) ea (r.weak fun b z => z.1))⟩
theorem dsrc_new {m : Mo} {e : Expr} {f : LF} (h : DN X m e f) : DSrc X true m e f := by
  refine PE.weak h fun σ H Q ⟨w, ρ, p, ok, d, p', e, q⟩ => ⟨w, ρ, p, ok, d, p', e, fun a xs H' k1 n ea r => ?_⟩
  have al := ok.new n
  exact q a xs H' k1 ea al.2.1 (fun _ => al.2.2) (r.weak fun b z => z.1)
theorem DSrc.loose {m : Mo} {sf : Bool} {e : Expr} {f : LF} (h : DSrc X true m e f) : DSrc X sf m e f := by
  refine PE.weak h fun σ H Q ⟨w, ρ, p, ok, d, p', e, q⟩ => ⟨w, ρ, p, ok, d, p', e, fun a xs H' k1 ea g o r => q a xs H' k1 ea g (fun _ => o rfl) r⟩
theorem RepAll.new {xs : List V} {ds : List D} {m : Mo} {a : Addr} {o : HO} (r : RepAll w.k (Md m w ρ σ) H xs ds) (n : H a = none) : RepAll w.k (fun b => Md m w ρ σ b ∧ b ≠ a) (L2.upd H a o) xs ds :=
  RepAll.mono (fun b z h => ⟨z, fun e => h (e ▸ n)⟩) (fun b u _ e => by rw [upd_ne (ne_of_none e n)]; exact e) ds r
def lLst (g : AF) : LF := fun ρ p => (g ρ p).bind fun x => if x.1.length ≤ 65536 then some x else none
theorem dn_lst {es : List Expr} {g : AF} {m : Mo} {pos : Pos} (h : DA X m es g) : DN X m (.List es pos) (lLst g) := by
  refine PE.weak (pe_lst h) fun σ H Q ⟨w, ρ, p, ok, d, p', e, q⟩ => ?_
  unfold lLst at e
  cases e1 : g ρ p with
  | none => rw [e1] at e; cases e
  | some x =>
    obtain ⟨ds, p1⟩ := x
    rw [e1] at e
    simp only [Option.bind_some] at e
    split at e
    · rename_i hl
      cases e
      refine ⟨w, ρ, p, ok, d, p', e1, fun vs H1 k1 r1 => ⟨by rw [r1.length]; exact small_line hl, fun a n => ?_⟩⟩
      have o1 := ok.keep k1
      have n0 : H a = none := by
        cases z : H a with
        | none => rfl
        | some u =>
          by_cases hp : a = w.k.pa
          · rw [hp, k1.2] at n; cases n
          · rw [k1.1 a u hp z] at n; cases n
      exact q a vs _ (k1.trans (Keep.new o1.pot n)) n0 upd_same (r1.new n)
    · cases e
theorem Keep.none (ke : Keep k p H H') (n : H' a = none) : H a = none := by
  cases z : H a with
  | none => rfl
  | some u =>
    by_cases hp : a = k.pa
    · rw [hp, ke.2] at n; cases n
    · rw [ke.1 a u hp z] at n; cases n

/-! ### comprehensions -/
def wipeD (ρ : DEnv) : List Nat → DEnv
  | [] => ρ
  | v :: vs => (wipeD ρ vs).set v .no
theorem Ok.wipe (h : Ok C w ρ p σ H) : ∀ vs, Ok C w (wipeD ρ vs) p (L2.wipe σ vs) H
  | [] => h
  | v :: vs => (Ok.wipe h vs).set (s := .no) trivial
def noOw (ρ : DEnv) (vs : List Nat) : Bool := vs.all fun i => match ρ[i]? with
  | some (.ow _) => false
  | _ => true
def TgOk (t : TgF) (is : List Nat) : Prop := ∀ ρ d ρ', t ρ d = some ρ' → ∀ i, i ∉ is → ρ'[i]? = ρ[i]?
theorem tgOk_name {m : Mo} {i : Nat} : TgOk (tgName m i) [i] := fun ρ d ρ' e j hj => by
  cases e
  exact List.getElem?_set_ne (fun z => hj (by simp [z]))
theorem tgOk_bind {m : Mo} : ∀ (is : List Nat) (ds : List D) (ρ ρ' : DEnv), bindAll m is ds ρ = some ρ' → ∀ i, i ∉ is → ρ'[i]? = ρ[i]?
  | [], [], ρ, ρ', e, i, _ => by cases e; rfl
  | [], _ :: _, ρ, ρ', e, i, _ => by cases e
  | _ :: _, [], ρ, ρ', e, i, _ => by cases e
  | j :: is, d :: ds, ρ, ρ', e, i, hi => by
    have h := tgOk_bind is ds _ ρ' e i (fun z => hi (List.mem_cons_of_mem _ z))
    rw [h, List.getElem?_set_ne (fun z => hi (by simp [z]))]
theorem tgOk_tup {m : Mo} {is : List Nat} : TgOk (tgTup m is) is := fun ρ d ρ' e j hj => by
  cases d <;> first | cases e | exact tgOk_bind is _ ρ ρ' e j hj
theorem wipeD_out {i : Nat} : ∀ {vs : List Nat}, i ∉ vs → (wipeD ρ vs)[i]? = ρ[i]?
  | [], _ => rfl
  | v :: vs, h => by
    unfold wipeD
    rw [List.getElem?_set_ne (fun z => h (by simp [z])), wipeD_out (fun z => h (List.mem_cons_of_mem _ z))]
theorem wipeL_out {i : Nat} : ∀ {vs : List Nat}, i ∉ vs → (L2.wipe σ vs)[i]? = σ[i]?
  | [], _ => rfl
  | v :: vs, h => by
    unfold L2.wipe
    rw [List.getElem?_set_ne (fun z => h (by simp [z])), wipeL_out (fun z => h (List.mem_cons_of_mem _ z))]
theorem wipeL_idem (vs : List Nat) : L2.wipe (L2.wipe σ vs) vs = L2.wipe σ vs := by
  have key : ∀ (us : List Nat), (∀ i ∈ us, i ∈ vs) → L2.wipe (L2.wipe σ us) vs = L2.wipe σ vs := by
    intro us
    induction us with
    | nil => intro _; rfl
    | cons u us ih =>
      intro h
      show L2.wipe ((L2.wipe σ us).set u none) vs = _
      rw [wipe_set (h u List.mem_cons_self), ih fun i hi => h i (List.mem_cons_of_mem _ hi)]
  exact key vs fun _ h => h
/-- an address of ours becomes a ghost -/
abbrev Wd.ghost (w : Wd) (a : Addr) : Wd := { w with gh := fun b => w.gh b ∨ b = a }
theorem Ok.ghost {a : Addr} (h : Ok C w ρ p σ H) (n : H a = none) (ke : Keep w.k p' H H') (hl : ∃ xs, H' a = some (.lst xs)) : Ok C (w.ghost a) ρ p' σ H' := by
  have o := h.keep ke
  have ha : H' a ≠ none := by obtain ⟨xs, e⟩ := hl; rw [e]; exact fun z => nomatch z
  have ne : ∀ b, H b ≠ none → b ≠ a := fun b hb z => hb (z ▸ n)
  have kp : ∀ b u, ¬ w.gh b → H b = some u → H' b = some u := fun b u g q => ke.1 b u (h.nopot g) q
  refine ⟨h.cls, o.pot, .inl h.pgh, fun b g => ?_, o.h0, fun b u q g => ?_, h.fresh, h.len, fun i s e => ?_, h.apart, o.g0, fun b u q => ⟨.inl (h.g0g b u q).1, (h.g0g b u q).2⟩, fun b dx fs q => ⟨(o.ui b dx fs q).1, fun g => g.elim (o.ui b dx fs q).2 fun z => by obtain ⟨xs, e⟩ := hl; rw [z, e] at q; cases q⟩⟩
  · rcases g with g | g
    · exact o.ghs b g
    · rw [g]; exact ha
  · rcases g with g | g
    · exact h.h0g b u q g
    · rw [g] at q; rw [h.h0 a u q] at n; cases n
  · have z := h.slots i s e
    cases s with
    | no => trivial
    | fx v => exact z
    | sh d =>
      obtain ⟨v, ev, r⟩ := z
      exact ⟨v, ev, r.mono (fun b nb hb => ⟨nb.1, fun g => g.elim nb.2.1 (ne b hb), nb.2.2⟩) fun b u nb q => kp b u nb.2.1 q⟩
    | ro d =>
      obtain ⟨v, ev, r⟩ := z
      exact ⟨v, ev, r.mono (fun b nb hb => ⟨fun g => g.elim nb.1 (ne b hb), nb.2⟩) fun b u nb q => kp b u nb.1 q⟩
    | ow l =>
      obtain ⟨q, xs, e1, e2, e3, e4, r⟩ := z
      exact ⟨q, xs, e1, kp q _ e4 e2, e3, fun g => g.elim e4 (ne q (by rw [e2]; exact fun z => nomatch z)), r.mono (fun b nb hb => ⟨nb.1, fun g => g.elim nb.2.1 (ne b hb), nb.2.2⟩) fun b u nb q => kp b u nb.2.1 q⟩
def dCompL (t : TgF) (c : BF) (f : EF) : List D → DEnv → Pot → Option (List D × Pot)
  | [], _, p => some ([], p)
  | d :: ds, ρ, p => (t ρ d).bind fun ρ1 => (c ρ1 p).bind fun x => if x.1 = true then (f ρ1 x.2).bind fun y => (dCompL t c f ds ρ y.2).map fun z => (y.1 :: z.1, z.2) else dCompL t c f ds ρ x.2
def lComp (vs : List Nat) (h : LF) (t : TgF) (c : BF) (f : EF) : LF := fun ρ p => if noOw ρ vs = true then (h ρ p).bind fun x => (dCompL t c f x.1 (wipeD ρ vs) x.2).bind fun y => if y.1.length ≤ 65536 then some y else none else none
def DTs (X : Cx) (ifs : List Expr) (f : BF) : Prop := PTs X ifs (tDT (clsOf X) f)
def bTrue : BF := fun _ p => some (true, p)
theorem PTs.weak {e : List Expr} {t t' : TT} (h : PTs X e t) (i : ∀ σ H Q, t' σ H Q → t σ H Q) : PTs X e t' := ⟨fun pins s σ H Q I q => h.run pins s σ H Q I (i _ _ _ q)⟩
theorem dts_nil : DTs X [] bTrue := PTs.weak pts_nil fun σ H Q ⟨w, ρ, p, ok, b, p', e, q⟩ => by
  cases e
  exact q H (Keep.refl ok)
theorem dts_one {e : Expr} {f : BF} (h : DT X e f) : DTs X [e] f := pts_one h
theorem comp_go {is vs : List Nat} {sf : Bool} {m me : Mo} {h : LF} {t : TgF} {c : BF} {f : EF} (tok : TgOk t is) (his : ∀ i ∈ is, i ∈ vs) {σ : L2.St} {H : Hp} {Q : VK} (hh : tDN C me (lComp vs h t c f) σ H Q) :
    tLc (tDI C sf m h) (tDG C m is t) (tDT C c) (tD C me f) vs σ H Q := by
  obtain ⟨w, ρ, p, ok, ds, p', e, q⟩ := hh
  unfold lComp at e
  split at e
  · rename_i hno
    cases e1 : h ρ p with
    | none => rw [e1] at e; cases e
    | some x =>
      obtain ⟨l, p1⟩ := x
      rw [e1] at e
      simp only [Option.bind_some] at e
      cases e2 : dCompL t c f l (wipeD ρ vs) p1 with
      | none => rw [e2] at e; cases e
      | some y =>
        rw [e2] at e
        simp only [Option.bind_some] at e
        split at e
        · rename_i hlen
          cases e
          refine ⟨w, ρ, p, ok, l, p1, e1, fun J H1 Hf k1 hf1 hf2 Wk D nD => ?_⟩
          have o1 := ok.keep k1
          have Dpa : D ≠ w.k.pa := fun z => by rw [z, o1.pot] at nD; cases nD
          refine ⟨fun i m H => m = l.length - i ∧ i ≤ l.length ∧ ∃ (pi : Pot) (acc : List V) (ad rest : List DL.D), (∀ b o, b ≠ w.k.pa → H1 b = some o → H b = some o) ∧ H w.k.pa = some (potO pi) ∧ H D = some (.lst acc) ∧
            RepAll w.k (fun b => Md me w ρ σ b ∧ b ≠ D) H acc ad ∧ dCompL t c f (l.drop i) (wipeD ρ vs) pi = some (rest, p') ∧ ad ++ rest = ds, ⟨l.length, by simp, Nat.zero_le _, p1, [], [], ds, ?_, ?_, upd_same, .nil, e2, rfl⟩, ?_⟩
          · intro b o nb e
            rw [upd_ne (ne_of_none e nD)]
            exact e
          · rw [upd_ne Dpa.symm]
            exact o1.pot
          · rintro i mm H2 ⟨rfl, hil, pi, acc, ad, rest, hk, hpot, hD, racc, ec, eds⟩
            have hfH : ∀ a o, Hf a = some o → H2 a = some o := fun a o z => hk a o (ok.nopot (hf2 a o z).1) (hf1 a o z)
            by_cases hlt : i < l.length
            · refine .inr ⟨Wk.go i H2 hlt hfH, fun H' => ∃ (pi : Pot) (acc : List V) (ad rest : List DL.D), (∀ b o, b ≠ w.k.pa → H1 b = some o → H' b = some o) ∧ H' w.k.pa = some (potO pi) ∧ H' D = some (.lst acc) ∧
                RepAll w.k (fun b => Md me w ρ σ b ∧ b ≠ D) H' acc ad ∧ dCompL t c f (l.drop (i + 1)) (wipeD ρ vs) pi = some (rest, p') ∧ ad ++ rest = ds, fun H' z => ⟨l.length - (i + 1), by omega, rfl, hlt, z⟩, fun x H3 y => ?_⟩
              have kH2 : Keep w.k pi H1 H2 := ⟨hk, hpot⟩
              have ow : Ok C w (wipeD ρ vs) p1 (L2.wipe σ vs) H1 := o1.wipe vs
              have kD : Keep (w.ghost D).k pi H1 H2 := kH2
              have o2 : Ok C (w.ghost D) (wipeD ρ vs) pi (L2.wipe σ vs) H2 := ow.ghost nD kH2 ⟨_, hD⟩
              obtain ⟨d, hd⟩ : ∃ d, l[i]? = some d := ⟨l[i], List.getElem?_eq_getElem hlt⟩
              obtain ⟨k3, r3⟩ := Wk.yld i H2 x H3 d hd hfH y
              have kk3 : Keep w.k pi H2 H3 := ⟨fun b u _ z => k3 b u z, k3 _ _ hpot⟩
              have o3 : Ok C (w.ghost D) (wipeD ρ vs) pi (L2.wipe σ vs) H3 := o2.keep kk3
              have neD : ∀ b, H1 b ≠ none → b ≠ D := fun b hb z => hb (z ▸ nD)
              have ownW : ∀ b, OwnAt (wipeD ρ vs) (L2.wipe σ vs) b → OwnAt ρ σ b := fun b o => by
                have key : ∀ us, OwnAt (wipeD ρ us) (L2.wipe σ us) b → OwnAt ρ σ b := by
                  intro us
                  induction us with
                  | nil => exact fun o => o
                  | cons u us ih => exact fun o => ih (OwnAt.of_set (s := .no) (fun l e => nomatch e) o)
                exact key vs o
              have mdW : ∀ b, Md m w ρ σ b → H1 b ≠ none → Md m (w.ghost D) (wipeD ρ vs) (L2.wipe σ vs) b := fun b z hb => by
                cases m with
                | al => exact ⟨z.1, fun g => g.elim z.2.1 (neD b hb), fun o => z.2.2 (ownW b o)⟩
                | fr => exact ⟨fun g => g.elim z.1 (neD b hb), fun o => z.2 (ownW b o)⟩
                | rd => exact fun g => g.elim z (neD b hb)
              have rx : Rep (w.ghost D).k (Md m (w.ghost D) (wipeD ρ vs) (L2.wipe σ vs)) H3 x d := Rep.weak r3 fun b z => by
                rcases z with ⟨z1, z2⟩ | z
                · cases q2 : Hf b with
                  | none => exact absurd q2 z2
                  | some u => exact mdW b z1 (by rw [hf1 b u q2]; exact fun z => nomatch z)
                · exact Md.al (o2.new z)
              have eds' : l.drop i = d :: l.drop (i + 1) := by
                rw [List.drop_eq_getElem_cons hlt]
                rw [List.getElem?_eq_getElem hlt] at hd
                cases hd
                rfl
              rw [eds'] at ec
              unfold dCompL at ec
              cases et : t (wipeD ρ vs) d with
              | none => rw [et] at ec; cases ec
              | some ρ2 =>
                rw [et] at ec
                simp only [Option.bind_some] at ec
                cases ecc : c ρ2 pi with
                | none => rw [ecc] at ec; cases ec
                | some bb =>
                  obtain ⟨b, pc⟩ := bb
                  rw [ecc] at ec
                  simp only [Option.bind_some] at ec
                  refine ⟨w.ghost D, wipeD ρ vs, pi, d, ρ2, o3, rx, et, fun σ2 o4 hw => ⟨by rw [hw vs his, wipeL_idem], w.ghost D, ρ2, pi, o4, b, pc, ecc, fun H4 k4 => ?_⟩⟩
                  have o5 := o4.keep k4
                  have k24 : Keep w.k pc H2 H4 := kk3.trans k4
                  have kH4 : ∀ b o, b ≠ w.k.pa → H1 b = some o → H4 b = some o := fun b o n z => k24.1 b o n (hk b o n z)
                  have hD4 : H4 D = some (.lst acc) := k24.1 D _ Dpa hD
                  have onK : ∀ {Hx : Hp} {q : Pot}, Keep w.k q H2 Hx → RepAll w.k (fun b => Md me w ρ σ b ∧ b ≠ D) Hx acc ad := fun {Hx q} kx => racc.keep fun b u z e => kx.1 b u (ok.nopot z.1.nog) e
                  have lenad : ad.length ≤ ds.length := by rw [← eds]; simp
                  have unO : ∀ b, OwnAt ρ σ b → OwnAt ρ2 σ2 b := fun b ⟨j, l', q1, q2⟩ => by
                    have hj : j ∉ vs := fun z => by
                      have := List.all_eq_true.mp hno j z
                      rw [q1] at this
                      cases this
                    refine ⟨j, l', ?_, ?_⟩
                    · rw [tok _ _ _ et j (fun z => hj (his j z)), wipeD_out hj, q1]
                    · have e1 : (L2.wipe σ2 vs)[j]? = (L2.wipe σ vs)[j]? := by rw [hw vs his, wipeL_idem]
                      rw [wipeL_out hj, wipeL_out hj] at e1
                      rw [e1, q2]
                  have mdB : ∀ b, Md me (w.ghost D) ρ2 σ2 b → Md me w ρ σ b ∧ b ≠ D := fun b z => by
                    cases me with
                    | al => exact ⟨⟨z.1, fun g => z.2.1 (.inl g), fun o => z.2.2 (unO b o)⟩, fun e => z.2.1 (.inr e)⟩
                    | fr => exact ⟨⟨fun g => z.1 (.inl g), fun o => z.2 (unO b o)⟩, fun e => z.1 (.inr e)⟩
                    | rd => exact ⟨fun g => z (.inl g), fun e => z (.inr e)⟩
                  cases b with
                  | false =>
                    simp only [Bool.false_eq_true, if_false] at ec ⊢
                    exact ⟨pc, acc, ad, rest, kH4, k24.2, hD4, onK k24, ec, eds⟩
                  | true =>
                    simp only [if_true] at ec ⊢
                    cases ef : f ρ2 pc with
                    | none => rw [ef] at ec; cases ec
                    | some yy =>
                      obtain ⟨dy, pf⟩ := yy
                      rw [ef] at ec
                      simp only [Option.bind_some] at ec
                      cases er : dCompL t c f (l.drop (i + 1)) (wipeD ρ vs) pf with
                      | none => rw [er] at ec; cases ec
                      | some zz =>
                        rw [er] at ec
                        cases ec
                        refine ⟨w.ghost D, ρ2, pc, o5, dy, pf, ef, fun v H5 k5 r5 => ⟨acc, ?_, ?_, ?_⟩⟩
                        · exact k5.1 D _ Dpa hD4
                        · have : acc.length = ad.length := racc.length
                          rw [this]
                          exact small_lt (Nat.le_trans lenad hlen)
                        · have k25 : Keep w.k pf H2 H5 := k24.trans k5
                          refine ⟨pf, acc ++ [v], ad ++ [dy], zz.1, fun b o n z => ?_, ?_, upd_same, ?_, er, by rw [← eds]; simp⟩
                          · rw [upd_ne (neD b (by rw [z]; exact fun z => nomatch z))]
                            exact k25.1 b o n (hk b o n z)
                          · rw [upd_ne Dpa.symm]
                            exact k25.2
                          · refine RepAll.append ((onK k25).keep fun b u z e => by rw [upd_ne z.2]; exact e) (.cons ?_ .nil)
                            exact (r5.weak mdB).keep fun b u z e => by rw [upd_ne z.2]; exact e
            · have : i = l.length := by omega
              subst this
              rw [List.drop_of_length_le (Nat.le_refl _)] at ec
              cases ec
              rw [List.append_nil] at eds
              subst eds
              refine .inl ⟨Wk.stop _ H2 (Nat.le_refl _) hfH, q D acc H2 ⟨fun a o z e => hk a o z (k1.1 a o z e), hpot⟩ (k1.none nD) hD racc⟩
        · cases e
  · cases e
theorem dn_comp {elt tg iter : Expr} {ifs : List Expr} {scope : Scope} {own : List (Str × Nat)} {is : List Nat} {pos : Pos} {sf : Bool} {m me : Mo} {h : LF} {t : TgF} {c : BF} {f : EF} (hc : X.calm = true) (hN : X.N.Nodup) (hi : DI X sf m tg iter h) (ok : BlkOk X.N X.env.scope scope own)
    (hg : ∀ (s : Shared) (H : Hp) (C : Addr) (cl : List (Str × Addr)) (fp : List Addr), DG (X.blk s H scope (compEnvC scope cl C X.env) fp) m tg is t)
    (ht : ∀ (s : Shared) (H : Hp) (C : Addr) (cl : List (Str × Addr)) (fp : List Addr), DTs (X.blk s H scope (compEnvC scope cl C X.env) fp) ifs c)
    (he : ∀ (s : Shared) (H : Hp) (C : Addr) (cl : List (Str × Addr)) (fp : List Addr), DE (X.blk s H scope (compEnvC scope cl C X.env) fp) me elt f)
    (tok : TgOk t is) (his : ∀ i ∈ is, i ∈ own.map (·.2)) (hs : ∀ x, foldedSetIterable iter X.env x = pure x := by intro _; rfl) :
    DN X me (.ListComp elt [⟨tg, iter, ifs, 0⟩] scope pos) (lComp (own.map (·.2)) h t c f) :=
  PE.weak (pe_lc (pos := pos) (wi := tDI (clsOf X) sf m h) (g := tDG (clsOf X) m is t) (tt := tDT (clsOf X) c) (te := tD (clsOf X) me f) hc hN hi ok (fun s H C cl fp => hg s H C cl fp) (fun s H C cl fp => ht s H C cl fp) (fun s H C cl fp => he s H C cl fp) hs) fun _ _ _ h => comp_go tok his h

end DL
namespace DL
open PySem PySem.Spec PyProof.Rows L2
variable {k : Kx} {N N' : Addr → Prop} {H H' H1 H2 : Hp} {w : Wd} {ρ ρ' : DEnv} {σ σ' : L2.St} {p p' p1 p2 : Pot} {X : Cx} {C : Addr}

/-! ### statements -/
inductive Fl where
  | nx | rt (d : D) | bk | ct
abbrev SF := DEnv → Pot → Option (Fl × DEnv × Pot)
/-- where a def's answer may stand -/
def Out (w : Wd) (a : Addr) : Prop := w.U a ∧ ¬ w.gh a
def tEnd (C : Addr) (w : Wd) (D : Ends) (fl : Fl) (ρ : DEnv) (p : Pot) (σ : L2.St) (H : Hp) : Prop := Ok C w ρ p σ H → match fl with
  | .nx => D.nx σ H
  | .bk => D.bk σ H
  | .ct => D.ct σ H
  | .rt d => ∀ v, Rep w.k (Out w) H v d → D.rt v H
def tDS (C : Addr) (g : SF) : TS := fun D σ H => ∃ w ρ p, Ok C w ρ p σ H ∧ ∃ fl ρ' p', g ρ p = some (fl, ρ', p') ∧ ∀ σ' H', tEnd C w D fl ρ' p' σ' H'
def DS (X : Cx) (st : Stmt) (g : SF) : Prop := PS X st (tDS (clsOf X) g)
def DSs (X : Cx) (st : List Stmt) (g : SF) : Prop := PSs X st (tDS (clsOf X) g)
def dNext : SF := fun ρ p => some (.nx, ρ, p)
def dSeq (g h : SF) : SF := fun ρ p => (g ρ p).bind fun x => match x.1 with
  | .nx => h x.2.1 x.2.2
  | _ => some x
theorem dss_nil : DSs X [] dNext := PSs.weak pss_nil fun D σ H ⟨w, ρ, p, ok, fl, ρ', p', e, q⟩ => by
  cases e
  exact q σ H ok
theorem dss_one {s : Stmt} {g : SF} (h : DS X s g) : DSs X [s] g := pss_one h
theorem dss_cons {s : Stmt} {r : List Stmt} {g h : SF} (hs : DS X s g) (hr : DSs X r h) : DSs X (s :: r) (dSeq g h) := by
  refine PSs.weak (pss_cons hs hr) fun D σ H ⟨w, ρ, p, ok, fl, ρ', p', e, q⟩ => ?_
  unfold dSeq at e
  cases e1 : g ρ p with
  | none => rw [e1] at e; cases e
  | some x =>
    obtain ⟨f1, ρ1, p1⟩ := x
    rw [e1] at e
    simp only [Option.bind_some] at e
    refine ⟨w, ρ, p, ok, f1, ρ1, p1, e1, fun σ1 H1 o1 => ?_⟩
    cases f1 with
    | nx => exact ⟨w, ρ1, p1, o1, fl, ρ', p', e, q⟩
    | bk => cases e; exact q σ1 H1 o1
    | ct => cases e; exact q σ1 H1 o1
    | rt d => cases e; exact q σ1 H1 o1
/-- an owned list is shared from here on -/
theorem dss_rel (i : Nat) {r : List Stmt} {g : SF} (h : DSs X r g) : DSs X r (fun ρ p => g (rel i ρ) p) :=
  PSs.weak h fun D σ H ⟨w, ρ, p, ok, fl, ρ', p', e, q⟩ => ⟨w, rel i ρ, p, ok.rel, fl, ρ', p', e, q⟩
def dRet (f : EF) : SF := fun ρ p => (f ρ p).map fun x => (.rt x.1, ρ, x.2)
theorem ds_ret {e : Expr} {f : EF} {pos : Pos} (h : DE X .al e f) : DS X (.Return (some e) pos) (dRet f) := by
  refine PS.weak (ps_ret h) fun D σ H ⟨w, ρ, p, ok, fl, ρ', p', e, q⟩ => ?_
  unfold dRet at e
  cases e1 : f ρ p with
  | none => rw [e1] at e; cases e
  | some x =>
    obtain ⟨d, p1⟩ := x
    rw [e1] at e
    cases e
    exact ⟨w, ρ, p, ok, d, p1, e1, fun v H' k1 r => q σ H' (ok.keep k1) v (r.weak fun a n => ⟨n.1, n.2.1⟩)⟩
def dFail : SF := fun _ _ => none
theorem ds_fail {s : Stmt} : DS X s dFail := PS.weak ps_never fun D σ H ⟨w, ρ, p, ok, fl, ρ', p', e, q⟩ => by cases e
theorem ds_pass {pos : Pos} : DS X (.Pass pos) dNext := PS.weak ps_pass fun D σ H ⟨w, ρ, p, ok, fl, ρ', p', e, q⟩ => by
  cases e
  exact q σ H ok
def dCont : SF := fun ρ p => some (.ct, ρ, p)
theorem ds_cont {pos : Pos} : DS X (.Continue pos) dCont := PS.weak ps_continue fun D σ H ⟨w, ρ, p, ok, fl, ρ', p', e, q⟩ => by
  cases e
  exact q σ H ok
def dIte (c : BF) (g h : SF) : SF := fun ρ p => (c ρ p).bind fun x => if x.1 = true then g ρ x.2 else h ρ x.2
theorem ds_if {c : Expr} {a b : List Stmt} {fc : BF} {g h : SF} {pos : Pos} (hc : DT X c fc) (ha : DSs X a g) (hb : DSs X b h) : DS X (.If c a b pos) (dIte fc g h) := by
  refine PS.weak (ps_if hc ha hb) fun D σ H ⟨w, ρ, p, ok, fl, ρ', p', e, q⟩ => ?_
  unfold dIte at e
  cases e1 : fc ρ p with
  | none => rw [e1] at e; cases e
  | some x =>
    obtain ⟨b, p1⟩ := x
    rw [e1] at e
    simp only [Option.bind_some] at e
    refine ⟨w, ρ, p, ok, b, p1, e1, fun H1 k1 => ?_⟩
    cases b with
    | true => exact ⟨w, ρ, p1, ok.keep k1, fl, ρ', p', e, q⟩
    | false => exact ⟨w, ρ, p1, ok.keep k1, fl, ρ', p', e, q⟩
/-- target = e -/
def dAsg (f : EF) (t : TgF) : SF := fun ρ p => (f ρ p).bind fun x => (t ρ x.1).map fun r => (.nx, r, x.2)
theorem ds_asg {tg e : Expr} {f : EF} {m : Mo} {is : List Nat} {t : TgF} {pos : Pos} (he : DE X m e f) (hg : DG X m tg is t) (hs : swapsWithSole [tg] e pos.line X.env = pure false := by rfl) (hw : swappedStores [tg] e X.env = pure none := by rfl)
    (h1 : (assignEach [tg] X.env).map (·.2) = [assign tg X.env] := by rfl) : DS X (.Assign [tg] e pos) (dAsg f t) := by
  refine PS.weak (ps_asg he hg hs hw h1) fun D σ H ⟨w, ρ, p, ok, fl, ρ', p', e, q⟩ => ?_
  unfold dAsg at e
  cases e1 : f ρ p with
  | none => rw [e1] at e; cases e
  | some x =>
    obtain ⟨d, p1⟩ := x
    rw [e1] at e
    simp only [Option.bind_some] at e
    cases e2 : t ρ d with
    | none => rw [e2] at e; cases e
    | some r =>
      rw [e2] at e
      cases e
      exact ⟨w, ρ, p, ok, d, p', e1, fun v H1 k1 r1 => ⟨w, ρ, p', d, ρ', ok.keep k1, r1, e2, fun σ' o _ => q σ' H1 o⟩⟩
theorem ds_set {i : Nat} {x : Str} {e : Expr} {f : EF} {m : Mo} {pos pos' : Pos} (hN : X.N.Nodup) (hi : X.N[i]? = some x) (hx : Loc X.env.scope x) (he : DE X m e f) (hm : m.slot = true := by rfl) (hs : swapsWith e (some (.Name x pos')) pos.line X.env = pure false := by rfl) (hf : X.fn x = true ∨ X.env.scope.names.lookup x = some .local := by first | exact .inl rfl | exact .inr rfl | assumption) :
    DS X (.Assign [.Name x pos'] e pos) (dAsg f (tgName m i)) := by
  refine PS.weak (ps_set hN hi hx he hs hf) fun D σ H ⟨w, ρ, p, ok, fl, ρ', p', e, q⟩ => ?_
  unfold dAsg at e
  cases e1 : f ρ p with
  | none => rw [e1] at e; cases e
  | some x =>
    obtain ⟨d, p1⟩ := x
    rw [e1] at e
    simp only [Option.bind_some] at e
    cases e
    exact ⟨w, ρ, p, ok, d, p', e1, fun v H1 k1 r1 => q _ H1 ((ok.keep k1).set (newOk_slot hm r1))⟩
/-- name = a list that is new and one's own -/
def dOwn (f : LF) (i : Nat) : SF := fun ρ p => (f ρ p).map fun x => (.nx, ρ.set i (.ow x.1), x.2)
theorem ds_own {i : Nat} {x : Str} {e : Expr} {f : LF} {pos pos' : Pos} (hN : X.N.Nodup) (hi : X.N[i]? = some x) (hx : Loc X.env.scope x) (he : DN X .al e f) (hs : swapsWith e (some (.Name x pos')) pos.line X.env = pure false := by rfl) (hf : X.fn x = true ∨ X.env.scope.names.lookup x = some .local := by first | exact .inl rfl | exact .inr rfl | assumption) :
    DS X (.Assign [.Name x pos'] e pos) (dOwn f i) := by
  refine PS.weak (ps_set hN hi hx he hs hf) fun D σ H ⟨w, ρ, p, ok, fl, ρ', p', e, q⟩ => ?_
  unfold dOwn at e
  cases e1 : f ρ p with
  | none => rw [e1] at e; cases e
  | some x =>
    obtain ⟨d, p1⟩ := x
    rw [e1] at e
    cases e
    exact ⟨w, ρ, p, ok, d, p1, e1, fun a xs H1 k1 n ea r1 => q _ H1 (ok.setNew (ok.keep k1) n ea k1 r1)⟩
/-- name = [..] on one line, the name a local: owned; shared -/
theorem ds_ownC {i : Nat} {y : Str} {py : Pos} {elt tg iter : Expr} {ifs : List Expr} {scope : Scope} {own : List (Str × Nat)} {is : List Nat} {pos spos : Pos} {sf : Bool} {m : Mo} {h : LF} {t : TgF} {c : BF} {f : EF} (hc : X.calm = true) (hN : X.N.Nodup) (hy : X.N[i]? = some y) (hyl : X.env.scope.names.lookup y = some .local)
    (hsw : swapsWith (.ListComp elt [⟨tg, iter, ifs, 0⟩] scope pos) (some (.Name y py)) spos.line X.env = pure true) (hi : DI X sf m tg iter h) (ok : BlkOk X.N X.env.scope scope own)
    (hg : ∀ (s : Shared) (H : Hp) (C : Addr) (cl : List (Str × Addr)) (fp : List Addr), DG (X.blk s H scope (compEnvC scope cl C X.env) fp) m tg is t)
    (ht : ∀ (s : Shared) (H : Hp) (C : Addr) (cl : List (Str × Addr)) (fp : List Addr), DTs (X.blk s H scope (compEnvC scope cl C X.env) fp) ifs c)
    (he : ∀ (s : Shared) (H : Hp) (C : Addr) (cl : List (Str × Addr)) (fp : List Addr), DE (X.blk s H scope (compEnvC scope cl C X.env) fp) .al elt f)
    (tok : TgOk t is) (his : ∀ i ∈ is, i ∈ own.map (·.2)) (hs : ∀ x, foldedSetIterable iter X.env x = pure x := by intro _; rfl) :
    DS X (.Assign [.Name y py] (.ListComp elt [⟨tg, iter, ifs, 0⟩] scope pos) spos) (dOwn (lComp (own.map (·.2)) h t c f) i) := by
  refine PS.weak (ps_setLc (wi := tDI (clsOf X) sf m h) (g := tDG (clsOf X) m is t) (tt := tDT (clsOf X) c) (te := tD (clsOf X) .al f) hc hN hy hyl hsw hi ok (fun s H C cl fp => hg s H C cl fp) (fun s H C cl fp => ht s H C cl fp) (fun s H C cl fp => he s H C cl fp) hs) fun D σ H ⟨w, ρ, p, ok, fl, ρ', p', e, q⟩ => ?_
  refine comp_go tok his ?_
  unfold dOwn at e
  cases e1 : lComp (own.map (·.2)) h t c f ρ p with
  | none => rw [e1] at e; cases e
  | some x =>
    obtain ⟨d, p1⟩ := x
    rw [e1] at e
    cases e
    exact ⟨w, ρ, p, ok, d, p1, e1, fun a xs H1 k1 n ea r1 => q _ H1 (ok.setNew (ok.keep k1) n ea k1 r1)⟩
theorem ds_setC {i : Nat} {y : Str} {py : Pos} {elt tg iter : Expr} {ifs : List Expr} {scope : Scope} {own : List (Str × Nat)} {is : List Nat} {pos spos : Pos} {sf : Bool} {m : Mo} {h : LF} {t : TgF} {c : BF} {f : EF} (hc : X.calm = true) (hN : X.N.Nodup) (hy : X.N[i]? = some y) (hyl : X.env.scope.names.lookup y = some .local)
    (hsw : swapsWith (.ListComp elt [⟨tg, iter, ifs, 0⟩] scope pos) (some (.Name y py)) spos.line X.env = pure true) (hi : DI X sf m tg iter h) (ok : BlkOk X.N X.env.scope scope own)
    (hg : ∀ (s : Shared) (H : Hp) (C : Addr) (cl : List (Str × Addr)) (fp : List Addr), DG (X.blk s H scope (compEnvC scope cl C X.env) fp) m tg is t)
    (ht : ∀ (s : Shared) (H : Hp) (C : Addr) (cl : List (Str × Addr)) (fp : List Addr), DTs (X.blk s H scope (compEnvC scope cl C X.env) fp) ifs c)
    (he : ∀ (s : Shared) (H : Hp) (C : Addr) (cl : List (Str × Addr)) (fp : List Addr), DE (X.blk s H scope (compEnvC scope cl C X.env) fp) .al elt f)
    (tok : TgOk t is) (his : ∀ i ∈ is, i ∈ own.map (·.2)) (hs : ∀ x, foldedSetIterable iter X.env x = pure x := by intro _; rfl) :
    DS X (.Assign [.Name y py] (.ListComp elt [⟨tg, iter, ifs, 0⟩] scope pos) spos) (dAsg (eL (lComp (own.map (·.2)) h t c f)) (tgName .al i)) := by
  refine PS.weak (ps_setLc (wi := tDI (clsOf X) sf m h) (g := tDG (clsOf X) m is t) (tt := tDT (clsOf X) c) (te := tD (clsOf X) .al f) hc hN hy hyl hsw hi ok (fun s H C cl fp => hg s H C cl fp) (fun s H C cl fp => ht s H C cl fp) (fun s H C cl fp => he s H C cl fp) hs) fun D σ H ⟨w, ρ, p, ok, fl, ρ', p', e, q⟩ => ?_
  refine comp_go tok his ?_
  unfold dAsg at e
  cases e1 : eL (lComp (own.map (·.2)) h t c f) ρ p with
  | none => rw [e1] at e; cases e
  | some x =>
    obtain ⟨d, p1⟩ := x
    rw [e1] at e
    cases e
    obtain ⟨l, rfl, e2⟩ := eL_some e1
    exact ⟨w, ρ, p, ok, l, p1, e2, fun a xs H1 k1 n ea r1 => q _ H1 ((ok.keep k1).setSh' (.lst (ok.new n) ea (r1.weak fun b z => z.1)))⟩
/-- an expression whose value is dropped -/
def dDrop (f : EF) : SF := fun ρ p => (f ρ p).map fun x => (.nx, ρ, x.2)
theorem ds_expr {e : Expr} {f : EF} {m : Mo} {pos : Pos} (he : DE X m e f) (hs : swapsWith e none pos.line X.env = pure false := by rfl) : DS X (.Expr e pos) (dDrop f) := by
  refine PS.weak (ps_expr he hs) fun D σ H ⟨w, ρ, p, ok, fl, ρ', p', e, q⟩ => ?_
  unfold dDrop at e
  cases e1 : f ρ p with
  | none => rw [e1] at e; cases e
  | some x =>
    obtain ⟨d, p1⟩ := x
    rw [e1] at e
    cases e
    exact ⟨w, ρ, p, ok, d, p1, e1, fun v H1 k1 r1 => q σ H1 (ok.keep k1)⟩
/-- x.append(e) of an owned list -/
def dAppend (i : Nat) (f : EF) : SF := fun ρ p => match ρ[i]? with
  | some (.ow l) => if l.length < 65536 then (f ρ p).map fun x => (.nx, ρ.set i (.ow (l ++ [x.1])), x.2) else none
  | _ => none
theorem ds_append {i : Nat} {o e : Expr} {f : EF} {apos cpos pos : Pos} (ho : PE X o (tVar i)) (he : DE X .al e f)
    (hs : swapsWith (.Call (.Attribute o "append" apos) [e] [] cpos) none pos.line X.env = pure false := by rfl)
    (hbase : attributeBase o "append" X.env (eval o X.env) = eval o X.env := by rfl)
    (hfew : ((backTo cpos (starEach [e] X.env)).all (fun x => !x.1) && (backToKw cpos (keywordEach [] X.env)).all (fun x => x.1.isSome)
      && decide ([e].length + ([] : List Keyword).length + (if ([] : List Keyword).isEmpty then 0 else 1) < 30)) = true := by rfl)
    (hline : (apos.endLine == cpos.line) = true := by rfl) (hst : starEach [e] X.env = (false, eval e X.env) :: starEach [] X.env := by rfl) (hplain : (backTo cpos (starEach [] X.env)).any (·.1) = false := by rfl) :
    DS X (.Expr (.Call (.Attribute o "append" apos) [e] [] cpos) pos) (dAppend i f) := by
  refine PS.weak (ps_expr (pe_bm PySem.F.plainAttrs_list PySem.F.slot_list_append PySem.F.type_list_append mt_append ho (pa_cons he pa_nil hst) hbase hfew hline hst hplain) hs) fun D σ H ⟨w, ρ, p, ok, fl, ρ', p', e, q⟩ => ?_
  unfold dAppend at e
  split at e
  · rename_i l hl
    split at e
    · rename_i hlen
      cases e1 : f ρ p with
      | none => rw [e1] at e; cases e
      | some x =>
        obtain ⟨d, p1⟩ := x
        rw [e1] at e
        cases e
        obtain ⟨a, xs, s1, s2, s3, s4, r⟩ := ok.slots i _ hl
        refine ⟨_, s1, .inl ⟨rfl, xs, SqL.of s2⟩, w, ρ, p, ok, d, p1, e1, fun v H1 k1 r1 => ⟨a, xs, v, rfl, rfl, k1.1 a _ (ok.nopot s4) s2, ?_, ?_⟩⟩
        · rw [r.length]
          exact small_lt (Nat.le_of_lt hlen)
        · refine q σ _ ((ok.keep k1).write hl s1 (RepAll.append (r.keep fun b o n e => k1.1 b o (ok.nopot n.2.1) e) (.cons r1 .nil)))
    · cases e
  · cases e
/-- x.extend(e) of an owned list -/
def dExtend (i : Nat) (f : LF) : SF := fun ρ p => match ρ[i]? with
  | some (.ow l) => (f ρ p).bind fun x => if l.length + x.1.length ≤ 65536 then some (.nx, ρ.set i (.ow (l ++ x.1)), x.2) else none
  | _ => none
theorem ds_extend {i : Nat} {o e : Expr} {f : LF} {sf : Bool} {apos cpos pos : Pos} (ho : PE X o (tVar i)) (he : DSrc X sf .al e f)
    (hs : swapsWith (.Call (.Attribute o "extend" apos) [e] [] cpos) none pos.line X.env = pure false := by rfl)
    (hbase : attributeBase o "extend" X.env (eval o X.env) = eval o X.env := by rfl)
    (hfew : ((backTo cpos (starEach [e] X.env)).all (fun x => !x.1) && (backToKw cpos (keywordEach [] X.env)).all (fun x => x.1.isSome)
      && decide ([e].length + ([] : List Keyword).length + (if ([] : List Keyword).isEmpty then 0 else 1) < 30)) = true := by rfl)
    (hline : (apos.endLine == cpos.line) = true := by rfl) (hst : starEach [e] X.env = (false, eval e X.env) :: starEach [] X.env := by rfl) (hplain : (backTo cpos (starEach [] X.env)).any (·.1) = false := by rfl) :
    DS X (.Expr (.Call (.Attribute o "extend" apos) [e] [] cpos) pos) (dExtend i f) := by
  refine PS.weak (ps_expr (pe_bm PySem.F.plainAttrs_list PySem.F.slot_list_extend PySem.F.type_list_extend mt_extend ho (pa_cons he pa_nil hst) hbase hfew hline hst hplain) hs) fun D σ H ⟨w, ρ, p, ok, fl, ρ', p', e, q⟩ => ?_
  unfold dExtend at e
  split at e
  · rename_i l hl
    cases e1 : f ρ p with
    | none => rw [e1] at e; cases e
    | some x =>
      obtain ⟨d, p1⟩ := x
      rw [e1] at e
      simp only [Option.bind_some] at e
      split at e
      · rename_i hlen
        cases e
        obtain ⟨a, xs, s1, s2, s3, s4, r⟩ := ok.slots i _ hl
        refine ⟨_, s1, .inl ⟨rfl, xs, SqL.of s2⟩, w, ρ, p, ok, d, p', e1, fun b ys H1 k1 eb g o r1 => ⟨a, b, xs, ys, rfl, rfl, k1.1 a _ (ok.nopot s4) s2, eb, ?_, ?_⟩⟩
        · rw [r.length, r1.length]
          exact small_line hlen
        · refine q σ _ ((ok.keep k1).write hl s1 (RepAll.append (r.keep fun b o n e => k1.1 b o (ok.nopot n.2.1) e) r1))
      · cases e
  · cases e
/-- x[e] = v of an owned list -/
def dPut (i : Nat) (g f : EF) : SF := fun ρ p => (f ρ p).bind fun x => match ρ[i]? with
  | some (.ow l) => (g ρ x.2).bind fun y => match y.1 with
    | .int j => (ixN l.length j).map fun n => (.nx, ρ.set i (.ow (l.set n x.1)), y.2)
    | _ => none
  | _ => none
theorem ds_put {i : Nat} {o ix e : Expr} {g f : EF} {m : Mo} {pos spos : Pos} (ho : PE X o (tVar i)) (hi : DE X m ix g) (he : DE X .al e f)
    (ha : ∀ v, assign (.Subscript o ix spos) X.env v = (do
      let ov ← holding [v] (eval o X.env)
      let iv ← holding [v, ov] (eval ix X.env)
      standAt spos
      holding [v, ov, iv] (setItem ov iv v)
      release [v, ov, iv] []) := by intro _; rfl)
    (hs : swapsWithSole [.Subscript o ix spos] e pos.line X.env = pure false := by rfl) (hw : swappedStores [.Subscript o ix spos] e X.env = pure none := by rfl)
    (h1 : (assignEach [.Subscript o ix spos] X.env).map (·.2) = [assign (.Subscript o ix spos) X.env] := by rfl) : DS X (.Assign [.Subscript o ix spos] e pos) (dPut i g f) := by
  refine PS.weak (ps_asg he (pg_sub ho hi set_list ha) hs hw h1) fun D σ H ⟨w, ρ, p, ok, fl, ρ', p', e, q⟩ => ?_
  unfold dPut at e
  cases e1 : f ρ p with
  | none => rw [e1] at e; cases e
  | some x =>
    obtain ⟨d, p1⟩ := x
    rw [e1] at e
    simp only [Option.bind_some] at e
    split at e
    · rename_i l hl
      cases e2 : g ρ p1 with
      | none => rw [e2] at e; cases e
      | some y =>
        obtain ⟨dj, p2⟩ := y
        rw [e2] at e
        simp only [Option.bind_some] at e
        split at e
        · rename_i j
          cases e3 : ixN l.length j with
          | none => rw [e3] at e; cases e
          | some n =>
            rw [e3] at e
            cases e
            refine ⟨w, ρ, p, ok, d, p1, e1, fun v H1 k1 r1 => ?_⟩
            have o1 := ok.keep k1
            obtain ⟨a, xs, s1, s2, s3, s4, r⟩ := o1.slots i _ hl
            refine ⟨_, s1, w, ρ, p1, o1, _, p', e2, fun u H2 k2 r2 => ?_⟩
            cases r2
            refine ⟨a, xs, j, n, rfl, rfl, k2.1 a _ (ok.nopot s4) s2, by rw [r.length]; exact e3, ?_⟩
            have o2 := o1.keep k2
            exact q σ _ (o2.write hl s1 (RepAll.set (Rep.on (m := .al) o1 k2 r1) n (r.keep fun b o n e => k2.1 b o (ok.nopot n.2.1) e)))
        · cases e
    · cases e
/-- for -/
def dForL (t : TgF) (g : SF) : List D → SF
  | [], ρ, p => some (.nx, ρ, p)
  | d :: ds, ρ, p => (t ρ d).bind fun r => (g r p).bind fun x => match x.1 with
    | .nx => dForL t g ds x.2.1 x.2.2
    | .ct => dForL t g ds x.2.1 x.2.2
    | .bk => some (.nx, x.2)
    | .rt d => some (.rt d, x.2)
def dFor (h : LF) (t : TgF) (g : SF) : SF := fun ρ p => (h ρ p).bind fun x => dForL t g x.1 ρ x.2
/-- what no owned list, no ghost is, as it stands -/
noncomputable abbrev Wd.hold (w : Wd) (ρ : DEnv) (σ : L2.St) (H : Hp) : Wd := { w with H0 := part H (Fr w ρ σ) }
theorem Ok.hold (h : Ok C w ρ p σ H) : Ok C (w.hold ρ σ H) ρ p σ H := by
  refine ⟨h.cls, h.pot, h.pgh, h.ghs, fun a o e => (part_some.mp e).2, fun a o e => (part_some.mp e).1.1, fun a e => ?_, h.len, fun i s ei => ?_, h.apart, h.g0, h.g0g, h.ui⟩
  · have e : part H (Fr w ρ σ) a = none := e
    refine h.fresh a ?_
    cases z : w.H0 a with
    | none => rfl
    | some o =>
      have f : Fr w ρ σ a := ⟨h.h0g a o z, fun oo => by obtain ⟨_, _, q, _⟩ := h.own oo; rw [q] at z; cases z⟩
      have : part H (Fr w ρ σ) a = some o := part_some.mpr ⟨f, h.h0 a o z⟩
      rw [e] at this
      cases this
  · have z := h.slots i s ei
    cases s with
    | no => trivial
    | fx v => exact z
    | sh d => exact z
    | ro d => exact z
    | ow l =>
      obtain ⟨a, xs, e1, e2, e3, e4, r⟩ := z
      refine ⟨a, xs, e1, e2, ?_, e4, r⟩
      cases q : part H (Fr w ρ σ) a with
      | none => exact q
      | some o => exact ((part_some.mp q).1.2 ⟨i, l, ei, e1⟩).elim
theorem Ok.loose {H0' : Hp} (h : Ok C { w with H0 := H0' } ρ p σ H) (hs : ∀ a o, w.H0 a = some o → H0' a = some o) (hf : ∀ a, w.H0 a = none → w.U a) : Ok C w ρ p σ H := by
  have nn : ∀ a, H0' a = none → w.H0 a = none := fun a e => by
    cases z : w.H0 a with
    | none => rfl
    | some o => rw [hs a o z] at e; cases e
  refine ⟨h.cls, h.pot, h.pgh, h.ghs, fun a o e => h.h0 a o (hs a o e), fun a o e => h.h0g a o (hs a o e), hf, h.len, fun i s ei => ?_, h.apart, h.g0, h.g0g, h.ui⟩
  have z := h.slots i s ei
  cases s with
  | no => trivial
  | fx v => exact z
  | sh d => exact z
  | ro d => exact z
  | ow l =>
    obtain ⟨a, xs, e1, e2, e3, e4, r⟩ := z
    exact ⟨a, xs, e1, e2, nn a e3, e4, r⟩
theorem Ok.part0 (h : Ok C w ρ p σ H) : ∀ a o, w.H0 a = some o → part H (Fr w ρ σ) a = some o := fun a o z =>
  part_some.mpr ⟨⟨h.h0g a o z, fun oo => by obtain ⟨_, _, q, _⟩ := h.own oo; rw [q] at z; cases z⟩, h.h0 a o z⟩
theorem ds_for {tg iter : Expr} {body : List Stmt} {h : LF} {m : Mo} {is : List Nat} {t : TgF} {g : SF} {pos : Pos} (hp : PassesOwn (model X.prog X.w) X.A X.env X.xe) (hc : X.calm = true) (hi : DI X true m tg iter h) (hg : DG X m tg is t) (hb : DSs X body g)
    (hs : ∀ x, foldedSetIterable iter X.env x = pure x := by intro _; rfl) : DS X (.For tg iter body [] pos) (dFor h t g) := by
  refine PS.weak (ps_for hp hc hi hg hb hs) fun D σ H ⟨w, ρ, p, ok, fl, ρ', p', e, q⟩ => ?_
  unfold dFor at e
  cases e1 : h ρ p with
  | none => rw [e1] at e; cases e
  | some x =>
    obtain ⟨l, p1⟩ := x
    rw [e1] at e
    simp only [Option.bind_some] at e
    refine ⟨w, ρ, p, ok, l, p1, e1, fun J H1 Hf k1 hf1 hf2 Wk => ?_⟩
    have o1 := ok.keep k1
    have back : ∀ {ρi : DEnv} {pi : Pot} {σi : L2.St} {Hi : Hp}, Ok (clsOf X) (w.hold ρ σ H1) ρi pi σi Hi → Ok (clsOf X) w ρi pi σi Hi := fun o => o.loose o1.part0 ok.fresh
    refine ⟨fun i mm σ' H' => mm = l.length - i ∧ i ≤ l.length ∧ ∃ ρi pi, Ok (clsOf X) (w.hold ρ σ H1) ρi pi σ' H' ∧ dForL t g (l.drop i) ρi pi = some (fl, ρ', p'), ⟨l.length, by simp, Nat.zero_le _, ρ, p1, o1.hold, e⟩, ?_⟩
    rintro i mm σi Hi ⟨rfl, hil, ρi, pi, oi, ei⟩
    have hfH : ∀ a o, Hf a = some o → Hi a = some o := fun a o z => oi.h0 a o (part_some.mpr ⟨⟨(hf2 a o z).1, (hf2 a o z).2 rfl⟩, hf1 a o z⟩)
    by_cases hlt : i < l.length
    · refine .inr ⟨Wk.go i Hi hlt hfH, fun σ' H' => ∃ ρi pi, Ok (clsOf X) (w.hold ρ σ H1) ρi pi σ' H' ∧ dForL t g (l.drop (i + 1)) ρi pi = some (fl, ρ', p'), fun σ' H' z => ⟨l.length - (i + 1), by omega, rfl, hlt, z⟩, fun x H3 y => ?_⟩
      have hd : l[i]? = some l[i] := List.getElem?_eq_getElem hlt
      obtain ⟨k3, r3⟩ := Wk.yld i Hi x H3 _ hd hfH y
      have o3 : Ok (clsOf X) (w.hold ρ σ H1) ρi pi σi H3 := oi.keep ⟨fun b u _ z => k3 b u z, k3 _ _ oi.pot⟩
      have rx : Rep (w.hold ρ σ H1).k (Md m (w.hold ρ σ H1) ρi σi) H3 x l[i] := Rep.weak r3 fun b z => by
        rcases z with ⟨z1, z2⟩ | z
        · cases q2 : Hf b with
          | none => exact absurd q2 z2
          | some u =>
            have hb0 : (w.hold ρ σ H1).H0 b = some u := part_some.mpr ⟨⟨(hf2 b u q2).1, (hf2 b u q2).2 rfl⟩, hf1 b u q2⟩
            have no : ¬ OwnAt ρi σi b := fun oo => by
              obtain ⟨_, _, q3, _⟩ := oi.own oo
              rw [hb0] at q3
              cases q3
            cases m with
            | al => exact ⟨z1.1, z1.2.1, no⟩
            | fr => exact ⟨z1.1, no⟩
            | rd => exact z1
        · exact Md.al (oi.new z)
      rw [List.drop_eq_getElem_cons hlt] at ei
      unfold dForL at ei
      cases et : t ρi l[i] with
      | none => rw [et] at ei; cases ei
      | some ρ2 =>
        rw [et] at ei
        simp only [Option.bind_some] at ei
        cases eg : g ρ2 pi with
        | none => rw [eg] at ei; cases ei
        | some x =>
          obtain ⟨f1, ρ3, p3⟩ := x
          rw [eg] at ei
          simp only [Option.bind_some] at ei
          refine ⟨w.hold ρ σ H1, ρi, pi, _, ρ2, o3, rx, et, fun σ2 o4 _ => ⟨w.hold ρ σ H1, ρ2, pi, o4, f1, ρ3, p3, eg, fun σ3 H4 o5 => ?_⟩⟩
          cases f1 with
          | nx => exact ⟨ρ3, p3, o5, ei⟩
          | ct => exact ⟨ρ3, p3, o5, ei⟩
          | bk => cases ei; exact q σ3 H4 (back o5)
          | rt d => cases ei; exact fun v r => q σ3 H4 (back o5) v r
    · have : i = l.length := by omega
      subst this
      rw [List.drop_of_length_le (Nat.le_refl _)] at ei
      cases ei
      exact .inl ⟨Wk.stop _ Hi (Nat.le_refl _) hfH, q σi Hi (back oi)⟩

/-- while -/
def dLoop (c : BF) (g : SF) : Nat → SF
  | 0, _, _ => none
  | n + 1, ρ, p => (c ρ p).bind fun x => if x.1 = true then (g ρ x.2).bind fun y => match y.1 with
      | .nx => dLoop c g n y.2.1 y.2.2
      | .ct => dLoop c g n y.2.1 y.2.2
      | .bk => some (.nx, y.2)
      | .rt d => some (.rt d, y.2)
    else some (.nx, ρ, x.2)
theorem dLoop_mono {c : BF} {g : SF} : ∀ (n m : Nat) (ρ : DEnv) (p : Pot) (r : Fl × DEnv × Pot), n ≤ m → dLoop c g n ρ p = some r → dLoop c g m ρ p = some r
  | 0, _, _, _, _, _, h => by cases h
  | n + 1, 0, _, _, _, hm, _ => by omega
  | n + 1, m + 1, ρ, p, r, hm, h => by
    unfold dLoop at h ⊢
    cases e1 : c ρ p with
    | none => rw [e1] at h; cases h
    | some x =>
      rw [e1] at h
      simp only [Option.bind_some] at h ⊢
      split
      · rename_i hx
        rw [if_pos hx] at h
        cases e2 : g ρ x.2 with
        | none => rw [e2] at h; cases h
        | some y =>
          obtain ⟨f, ρ1, p1⟩ := y
          rw [e2] at h
          simp only [Option.bind_some] at h ⊢
          cases f with
          | nx => exact dLoop_mono n m _ _ r (by omega) h
          | ct => exact dLoop_mono n m _ _ r (by omega) h
          | bk => exact h
          | rt d => exact h
      · rename_i hx
        rw [if_neg hx] at h
        exact h
noncomputable def dWhile (c : BF) (g : SF) : SF := fun ρ p => open Classical in if h : ∃ n r, dLoop c g n ρ p = some r then some h.choose_spec.choose else none
theorem dWhile_eq {c : BF} {g : SF} {n : Nat} {ρ : DEnv} {p : Pot} {r : Fl × DEnv × Pot} (h : dLoop c g n ρ p = some r) : dWhile c g ρ p = some r := by
  unfold dWhile
  have hx : ∃ n r, dLoop c g n ρ p = some r := ⟨n, r, h⟩
  rw [dif_pos hx]
  have e := hx.choose_spec.choose_spec
  have e1 := dLoop_mono _ (max n hx.choose) _ _ _ (Nat.le_max_right _ _) e
  have e2 := dLoop_mono _ (max n hx.choose) _ _ _ (Nat.le_max_left _ _) h
  rw [e1] at e2
  exact e2
theorem dWhile_some {c : BF} {g : SF} {ρ : DEnv} {p : Pot} {r : Fl × DEnv × Pot} (h : dWhile c g ρ p = some r) : ∃ n, dLoop c g n ρ p = some r := by
  unfold dWhile at h
  split at h
  · rename_i hx
    have e := hx.choose_spec.choose_spec
    cases h
    exact ⟨_, e⟩
  · cases h
theorem ds_while {c : Expr} {body : List Stmt} {fc : BF} {g : SF} {pos : Pos} (hp : PassesOwn (model X.prog X.w) X.A X.env X.xe) (hc : DT X c fc) (hb : DSs X body g) : DS X (.While c body [] pos) (dWhile fc g) := by
  refine PS.weak (ps_while hp hc hb) fun D σ H ⟨w, ρ, p, ok, fl, ρ', p', e, q⟩ => ?_
  obtain ⟨n, e⟩ := dWhile_some e
  refine ⟨fun n σ H => ∃ ρ p, Ok (clsOf X) w ρ p σ H ∧ dLoop fc g n ρ p = some (fl, ρ', p'), ⟨n, ρ, p, ok, e⟩, ?_⟩
  rintro n σi Hi ⟨ρi, pi, oi, ei⟩
  cases n with
  | zero => cases ei
  | succ n =>
    unfold dLoop at ei
    cases e1 : fc ρi pi with
    | none => rw [e1] at ei; cases ei
    | some x =>
      obtain ⟨b, p1⟩ := x
      rw [e1] at ei
      simp only [Option.bind_some] at ei
      refine ⟨w, ρi, pi, oi, b, p1, e1, fun H1 k1 => ?_⟩
      have o1 := oi.keep k1
      cases b with
      | false =>
        simp only [Bool.false_eq_true, if_false] at ei ⊢
        cases ei
        exact q σi H1 o1
      | true =>
        simp only [if_true] at ei ⊢
        refine ⟨fun σ H => ∃ ρ p, Ok (clsOf X) w ρ p σ H ∧ dLoop fc g n ρ p = some (fl, ρ', p'), fun σ' H' z => ⟨n, Nat.lt_succ_self _, z⟩, ?_⟩
        cases e2 : g ρi p1 with
        | none => rw [e2] at ei; cases ei
        | some y =>
          obtain ⟨f1, ρ3, p3⟩ := y
          rw [e2] at ei
          simp only [Option.bind_some] at ei
          refine ⟨w, ρi, p1, o1, f1, ρ3, p3, e2, fun σ3 H4 o5 => ?_⟩
          cases f1 with
          | nx => exact ⟨ρ3, p3, o5, ei⟩
          | ct => exact ⟨ρ3, p3, o5, ei⟩
          | bk => cases ei; exact q σ3 H4 o5
          | rt d => cases ei; exact fun v r => q σ3 H4 o5 v r
/-- x.append(y.pop(e)) of two owned lists -/
def dMove (i j : Nat) (f : EF) : SF := fun ρ p => match ρ[i]?, ρ[j]? with
  | some (.ow l), some (.ow m) => if i = j ∨ ¬ l.length < 65536 then none else (f ρ p).bind fun x => match x.1 with
    | .int n => if 0 ≤ n ∧ n < 65536 then (m[n.toNat]?).map fun d => (.nx, (ρ.set j (.ow (m.eraseIdx n.toNat))).set i (.ow (l ++ [d])), x.2) else none
    | _ => none
  | _, _ => none
theorem ds_move {i j : Nat} {o o2 e : Expr} {f : EF} {m : Mo} {apos cpos apos2 cpos2 pos : Pos} (ho : PE X o (tVar i)) (ho2 : PE X o2 (tVar j)) (he : DE X m e f)
    (hs : swapsWith (.Call (.Attribute o "append" apos) [.Call (.Attribute o2 "pop" apos2) [e] [] cpos2] [] cpos) none pos.line X.env = pure false := by rfl)
    (hbase : attributeBase o "append" X.env (eval o X.env) = eval o X.env := by rfl)
    (hfew : ((backTo cpos (starEach [.Call (.Attribute o2 "pop" apos2) [e] [] cpos2] X.env)).all (fun x => !x.1) && (backToKw cpos (keywordEach [] X.env)).all (fun x => x.1.isSome)
      && decide ([(Expr.Call (.Attribute o2 "pop" apos2) [e] [] cpos2)].length + ([] : List Keyword).length + (if ([] : List Keyword).isEmpty then 0 else 1) < 30)) = true := by rfl)
    (hline : (apos.endLine == cpos.line) = true := by rfl) (hst : starEach [.Call (.Attribute o2 "pop" apos2) [e] [] cpos2] X.env = (false, eval (.Call (.Attribute o2 "pop" apos2) [e] [] cpos2) X.env) :: starEach [] X.env := by rfl) (hplain : (backTo cpos (starEach [] X.env)).any (·.1) = false := by rfl)
    (hbase2 : attributeBase o2 "pop" X.env (eval o2 X.env) = eval o2 X.env := by rfl)
    (hfew2 : ((backTo cpos2 (starEach [e] X.env)).all (fun x => !x.1) && (backToKw cpos2 (keywordEach [] X.env)).all (fun x => x.1.isSome)
      && decide ([e].length + ([] : List Keyword).length + (if ([] : List Keyword).isEmpty then 0 else 1) < 30)) = true := by rfl)
    (hline2 : (apos2.endLine == cpos2.line) = true := by rfl) (hst2 : starEach [e] X.env = (false, eval e X.env) :: starEach [] X.env := by rfl) (hplain2 : (backTo cpos2 (starEach [] X.env)).any (·.1) = false := by rfl) :
    DS X (.Expr (.Call (.Attribute o "append" apos) [.Call (.Attribute o2 "pop" apos2) [e] [] cpos2] [] cpos) pos) (dMove i j f) := by
  refine PS.weak (ps_expr (pe_bm PySem.F.plainAttrs_list PySem.F.slot_list_append PySem.F.type_list_append mt_append ho (pa_cons (pe_bm PySem.F.plainAttrs_list PySem.F.slot_list_pop PySem.F.type_list_pop mt_popAt ho2 (pa_cons he pa_nil hst2) hbase2 hfew2 hline2 hst2 hplain2) pa_nil hst) hbase hfew hline hst hplain) hs) fun D σ H ⟨w, ρ, p, ok, fl, ρ', p', e, q⟩ => ?_
  unfold dMove at e
  split at e
  · rename_i l m' hl hm
    split at e
    · cases e
    · rename_i hij
      cases e1 : f ρ p with
      | none => rw [e1] at e; cases e
      | some x =>
        obtain ⟨d, p1⟩ := x
        rw [e1] at e
        simp only [Option.bind_some] at e
        split at e
        · rename_i n
          split at e
          · rename_i hn
            cases e2 : m'[n.toNat]? with
            | none => rw [e2] at e; cases e
            | some y =>
              rw [e2] at e
              cases e
              obtain ⟨a, xs, s1, s2, s3, s4, r⟩ := ok.slots i _ hl
              obtain ⟨b, ys, t1, t2, t3, t4, rb⟩ := ok.slots j _ hm
              have nij : i ≠ j := fun z => hij (.inl z)
              have nab : a ≠ b := fun z => nij (ok.apart i j _ _ a hl hm s1 (by rw [t1, z]))
              refine ⟨_, s1, .inl ⟨rfl, xs, SqL.of s2⟩, _, t1, .inl ⟨rfl, ys, SqL.of t2⟩, w, ρ, p, ok, _, p', e1, fun v H1 k1 r1 => ?_⟩
              cases r1
              obtain ⟨yv, ey, ry⟩ := rb.get e2
              have kb : H1 b = some (.lst ys) := k1.1 b _ (ok.nopot t4) t2
              have ka : H1 a = some (.lst xs) := k1.1 a _ (ok.nopot s4) s2
              have hlt : n.toNat < ys.length := (List.getElem?_eq_some_iff.mp ey).1
              refine ⟨b, ys, n, n.toNat, yv, rfl, rfl, kb, by omega, by omega, ?_, ey, ?_⟩
              · unfold seqIndex?
                have h1 : ¬ n < 0 := by omega
                have h2 : n < (ys.length : Int) := by omega
                simp [h1, h2, hn.1]
              · have o1 := ok.keep k1
                have o2 : Ok (clsOf X) w (ρ.set j (.ow (m'.eraseIdx n.toNat))) p' σ (upd H1 b (.lst (ys.eraseIdx n.toNat))) :=
                  o1.write hm t1 (RepAll.eraseIdx _ (rb.keep fun b o n e => k1.1 b o (ok.nopot n.2.1) e))
                have hi' : (ρ.set j (.ow (m'.eraseIdx n.toNat)))[i]? = some (.ow l) := by rw [List.getElem?_set_ne nij.symm]; exact hl
                obtain ⟨a', xs', s1', s2', s3', s4', r'⟩ := o2.slots i _ hi'
                rw [s1] at s1'
                cases s1'
                rw [upd_ne nab, ka] at s2'
                cases s2'
                refine ⟨a, xs, yv, rfl, rfl, by rw [upd_ne nab]; exact ka, ?_, ?_⟩
                · rw [r.length]
                  exact small_lt (by omega)
                · refine q σ _ (o2.write hi' s1 (RepAll.append r' (.cons ?_ .nil)))
                  have own : ∀ c, OwnAt (ρ.set j (.ow (m'.eraseIdx n.toNat))) σ c → OwnAt ρ σ c := fun c ⟨j', l', q1, q2⟩ => by
                    by_cases hj : j = j'
                    · subst hj
                      exact ⟨j, m', hm, q2⟩
                    · rw [List.getElem?_set_ne hj] at q1
                      exact ⟨j', l', q1, q2⟩
                  refine Rep.mono (fun c nc _ => ⟨nc.1, nc.2.1, fun oc => nc.2.2 (own c oc)⟩) (fun c o nc e => ?_) _ ry
                  have ncb : c ≠ b := fun z => nc.2.2 ⟨j, m', hm, by rw [t1, z]⟩
                  rw [upd_ne ncb]
                  exact k1.1 c o (ok.nopot nc.2.1) e
          · cases e
        · cases e
  · cases e
end DL
namespace DL
open PySem PySem.Spec PyProof.Rows L2
variable {k : Kx} {N N' : Addr → Prop} {H H' H1 H2 : Hp} {w : Wd} {ρ ρ' : DEnv} {σ σ' : L2.St} {p p' p1 p2 : Pot} {X : Cx} {C : Addr}

/-! ### a, b = x, y with two plain locals -/
def dPar (i j : Nat) (f g : EF) : SF := fun ρ p => (f ρ p).bind fun x => (g ρ x.2).map fun y => (.nx, (ρ.set i (.sh x.1)).set j (.sh y.1), y.2)
def dParO (i j : Nat) (f : EF) (g : LF) : SF := fun ρ p => (f ρ p).bind fun x => (g ρ x.2).map fun y => (.nx, (ρ.set i (.sh x.1)).set j (.ow y.1), y.2)
def dParOO (i j : Nat) (f g : LF) : SF := fun ρ p => (f ρ p).bind fun x => (g ρ x.2).map fun y => (.nx, (ρ.set i (.ow x.1)).set j (.ow y.1), y.2)
section
variable {i j : Nat} {x y : Str} {a b : Expr} {px py pt pos : Pos} {kt k2 pt2}
theorem al_set {i : Nat} {v : Option V} {s : Slot} {a : Addr} (hn : ∀ l, s ≠ .ow l) (h : Al w ρ σ a) : Al w (ρ.set i s) (σ.set i v) a := Md.set (m := .al) hn h
theorem ds_par {f g : EF} (hc : X.calm = true) (hN : X.N.Nodup) (hi : X.N[i]? = some x) (hj : X.N[j]? = some y) (hij : i ≠ j)
    (hx : X.env.scope.names.lookup x = some .local) (hy : X.env.scope.names.lookup y = some .local) (ha : DE X .al a f) (hb : DE X .al b g)
    (hw : swappedStores [.Tuple [.Name x px, .Name y py] kt pt] (.Tuple [a, b] k2 pt2) X.env = pure (some [x, y]))
    (hs : swapsWithSole [.Tuple [.Name x px, .Name y py] kt pt] (.Tuple [a, b] k2 pt2) pos.line X.env = pure false := by rfl)
    (h1 : starEach [a, b] X.env = (false, eval a X.env) :: starEach [b] X.env := by rfl) (h2 : starEach [b] X.env = (false, eval b X.env) :: starEach [] X.env := by rfl) :
    DS X (.Assign [.Tuple [.Name x px, .Name y py] kt pt] (.Tuple [a, b] k2 pt2) pos) (dPar i j f g) := by
  refine PS.weak (ps_par hc hN hi hj hij hx hy (pa_cons ha (pa_cons hb pa_nil h2) h1) hw hs) fun D σ H ⟨w, ρ, p, ok, fl, ρ', p', e, q⟩ => ?_
  unfold dPar at e
  cases e1 : f ρ p with
  | none => rw [e1] at e; cases e
  | some x =>
    obtain ⟨d, p1⟩ := x
    rw [e1] at e
    simp only [Option.bind_some] at e
    cases e2 : g ρ p1 with
    | none => rw [e2] at e; cases e
    | some y =>
      obtain ⟨d2, p2⟩ := y
      rw [e2] at e
      cases e
      refine ⟨w, ρ, p, ok, d, p1, e1, fun v H1 k1 r1 => ⟨w, ρ, p1, ok.keep k1, d2, p2, e2, fun u H2 k2 r2 => ⟨v, u, rfl, ?_⟩⟩⟩
      have o2 := (ok.keep k1).keep k2
      have ra : Rep w.k (Al w ρ σ) H2 v d := Rep.on (m := .al) (ok.keep k1) k2 r1
      have o3 := o2.setSh' (i := i) ra
      exact q _ H2 (o3.setSh' (r2.weak fun a n => al_set (fun _ e => nomatch e) n))
theorem ds_parO {f : EF} {g : LF} (hc : X.calm = true) (hN : X.N.Nodup) (hi : X.N[i]? = some x) (hj : X.N[j]? = some y) (hij : i ≠ j)
    (hx : X.env.scope.names.lookup x = some .local) (hy : X.env.scope.names.lookup y = some .local) (ha : DE X .al a f) (hb : DN X .al b g)
    (hw : swappedStores [.Tuple [.Name x px, .Name y py] kt pt] (.Tuple [a, b] k2 pt2) X.env = pure (some [x, y]))
    (hs : swapsWithSole [.Tuple [.Name x px, .Name y py] kt pt] (.Tuple [a, b] k2 pt2) pos.line X.env = pure false := by rfl)
    (h1 : starEach [a, b] X.env = (false, eval a X.env) :: starEach [b] X.env := by rfl) (h2 : starEach [b] X.env = (false, eval b X.env) :: starEach [] X.env := by rfl) :
    DS X (.Assign [.Tuple [.Name x px, .Name y py] kt pt] (.Tuple [a, b] k2 pt2) pos) (dParO i j f g) := by
  refine PS.weak (ps_par hc hN hi hj hij hx hy (pa_cons ha (pa_cons hb pa_nil h2) h1) hw hs) fun D σ H ⟨w, ρ, p, ok, fl, ρ', p', e, q⟩ => ?_
  unfold dParO at e
  cases e1 : f ρ p with
  | none => rw [e1] at e; cases e
  | some x =>
    obtain ⟨d, p1⟩ := x
    rw [e1] at e
    simp only [Option.bind_some] at e
    cases e2 : g ρ p1 with
    | none => rw [e2] at e; cases e
    | some y =>
      obtain ⟨d2, p2⟩ := y
      rw [e2] at e
      cases e
      refine ⟨w, ρ, p, ok, d, p1, e1, fun v H1 k1 r1 => ⟨w, ρ, p1, ok.keep k1, d2, p2, e2, fun a xs H2 k2 na ea r2 => ⟨v, .ref a, rfl, ?_⟩⟩⟩
      have o1 := ok.keep k1
      have o1' := o1.setSh' (i := i) r1
      have o2' := o1'.keep k2
      exact q _ H2 (o1'.setNew o2' na ea k2 (r2.weak fun b n => ⟨al_set (fun _ e => nomatch e) n.1, n.2⟩))
theorem ds_parOO {f g : LF} (hc : X.calm = true) (hN : X.N.Nodup) (hi : X.N[i]? = some x) (hj : X.N[j]? = some y) (hij : i ≠ j)
    (hx : X.env.scope.names.lookup x = some .local) (hy : X.env.scope.names.lookup y = some .local) (ha : DN X .al a f) (hb : DN X .al b g)
    (hw : swappedStores [.Tuple [.Name x px, .Name y py] kt pt] (.Tuple [a, b] k2 pt2) X.env = pure (some [x, y]))
    (hs : swapsWithSole [.Tuple [.Name x px, .Name y py] kt pt] (.Tuple [a, b] k2 pt2) pos.line X.env = pure false := by rfl)
    (h1 : starEach [a, b] X.env = (false, eval a X.env) :: starEach [b] X.env := by rfl) (h2 : starEach [b] X.env = (false, eval b X.env) :: starEach [] X.env := by rfl) :
    DS X (.Assign [.Tuple [.Name x px, .Name y py] kt pt] (.Tuple [a, b] k2 pt2) pos) (dParOO i j f g) := by
  refine PS.weak (ps_par hc hN hi hj hij hx hy (pa_cons ha (pa_cons hb pa_nil h2) h1) hw hs) fun D σ H ⟨w, ρ, p, ok, fl, ρ', p', e, q⟩ => ?_
  unfold dParOO at e
  cases e1 : f ρ p with
  | none => rw [e1] at e; cases e
  | some x =>
    obtain ⟨d, p1⟩ := x
    rw [e1] at e
    simp only [Option.bind_some] at e
    cases e2 : g ρ p1 with
    | none => rw [e2] at e; cases e
    | some y =>
      obtain ⟨d2, p2⟩ := y
      rw [e2] at e
      cases e
      refine ⟨w, ρ, p, ok, d, p1, e1, fun a xs H1 k1 na ea r1 => ⟨w.ghost a, ρ, p1, ok.ghost na k1 ⟨_, ea⟩, d2, p2, e2, fun b ys H2 k2 nb eb r2 => ⟨.ref a, .ref b, rfl, ?_⟩⟩⟩
      have o1 := ok.keep k1
      have o1' := ok.setNew (i := i) o1 na ea k1 r1
      have o2' := o1'.keep k2
      refine q _ H2 (o1'.setNew o2' nb eb k2 (r2.weak fun c n => ⟨⟨n.1.1, fun g => n.1.2.1 (.inl g), fun o => ?_⟩, n.2⟩))
      obtain ⟨m, l, q1, q2⟩ := o
      by_cases hm : i = m
      · subst hm
        have hi : i < σ.length := by
          have := (List.getElem?_eq_some_iff.mp q2).1
          simpa using this
        rw [List.getElem?_set_self hi] at q2
        cases q2
        exact n.1.2.1 (.inr rfl)
      · rw [List.getElem?_set_ne hm] at q1 q2
        exact n.1.2.2 ⟨m, l, q1, q2⟩
def dParOS (i j : Nat) (f : LF) (g : EF) : SF := fun ρ p => (f ρ p).bind fun x => (g ρ x.2).map fun y => (.nx, (ρ.set i (.ow x.1)).set j (.sh y.1), y.2)
theorem ds_parOS {f : LF} {g : EF} (hc : X.calm = true) (hN : X.N.Nodup) (hi : X.N[i]? = some x) (hj : X.N[j]? = some y) (hij : i ≠ j)
    (hx : X.env.scope.names.lookup x = some .local) (hy : X.env.scope.names.lookup y = some .local) (ha : DN X .al a f) (hb : DE X .al b g)
    (hw : swappedStores [.Tuple [.Name x px, .Name y py] kt pt] (.Tuple [a, b] k2 pt2) X.env = pure (some [x, y]))
    (hs : swapsWithSole [.Tuple [.Name x px, .Name y py] kt pt] (.Tuple [a, b] k2 pt2) pos.line X.env = pure false := by rfl)
    (h1 : starEach [a, b] X.env = (false, eval a X.env) :: starEach [b] X.env := by rfl) (h2 : starEach [b] X.env = (false, eval b X.env) :: starEach [] X.env := by rfl) :
    DS X (.Assign [.Tuple [.Name x px, .Name y py] kt pt] (.Tuple [a, b] k2 pt2) pos) (dParOS i j f g) := by
  refine PS.weak (ps_par hc hN hi hj hij hx hy (pa_cons ha (pa_cons hb pa_nil h2) h1) hw hs) fun D σ H ⟨w, ρ, p, ok, fl, ρ', p', e, q⟩ => ?_
  unfold dParOS at e
  cases e1 : f ρ p with
  | none => rw [e1] at e; cases e
  | some x =>
    obtain ⟨d, p1⟩ := x
    rw [e1] at e
    simp only [Option.bind_some] at e
    cases e2 : g ρ p1 with
    | none => rw [e2] at e; cases e
    | some y =>
      obtain ⟨d2, p2⟩ := y
      rw [e2] at e
      cases e
      refine ⟨w, ρ, p, ok, d, p1, e1, fun a xs H1 k1 na ea r1 => ⟨w.ghost a, ρ, p1, ok.ghost na k1 ⟨_, ea⟩, d2, p2, e2, fun u H2 k2 r2 => ⟨.ref a, u, rfl, ?_⟩⟩⟩
      have o1 := ok.keep k1
      have o1' := ok.setNew (i := i) o1 na ea k1 r1
      have o2' := o1'.keep k2
      refine q _ H2 (o2'.setSh' (r2.weak fun c n => ⟨n.1, fun g => n.2.1 (.inl g), fun o => ?_⟩))
      obtain ⟨m, l, q1, q2⟩ := o
      by_cases hm : i = m
      · subst hm
        have hi : i < σ.length := by
          have := (List.getElem?_eq_some_iff.mp q2).1
          simpa using this
        rw [List.getElem?_set_self hi] at q2
        cases q2
        exact n.2.1 (.inr rfl)
      · rw [List.getElem?_set_ne hm] at q1 q2
        exact n.2.2 ⟨m, l, q1, q2⟩
end
/-! ### calls of one's own defs -/
/-- parameters' data, the defaults' -/
theorem vals_int {i : Int} {t : Tok} : Vals [V.int i] [Value.int i t] := .cons ⟨t, rfl⟩ .nil
section
variable {kk : Nat} {f : Addr} {fd : FuncData} {ps ks : List Str} {fn : PF} {fr : Bool} {x : Str} {pp pos : Pos} {e : Expr} {es : List Expr} {g : AF} {m : Mo} {ds : List Value} {dvs : List V} {dds : List D}
theorem de_callD (F : FnOk X.prog X.w X.K X.mg X.base CX0 kk f fd ps (spD (clsOf X) fr fn)) (hr : Room kk X.A) (hg : Gl X x) (hm : X.mg x = some (.ref f)) (hk : PySem.W.keepIn X.K (.ref f) = true) (hb : Binds X.K fd ps ds) (hd : Vals dvs ds) (hdd : ∀ k N H, RepAll k N H dvs dds)
    (ha : DA X m (e :: es) g) (hdb : (x == ("__debug__" : Str)) = false := by decide) (he : starEach (e :: es) X.env = (false, eval e X.env) :: starEach es X.env := by rfl) (hpl : (backTo pos (starEach es X.env)).any (·.1) = false := by rfl) :
    DE X (if fr = true then .al else m) (.Call (.Name x pp) (e :: es) [] pos) (dCall (fun a => fn (a ++ dds)) g) :=
  PE.weak (pe_call F hr hg hm hk hb hd pass0 ha hdb he hpl) fun σ H Q h => call_go hdd h
theorem dCall_nil {fn : PF} {g : AF} : dCall (fun a => fn (a ++ [])) g = dCall fn g := by
  unfold dCall
  simp only [List.append_nil]
theorem de_call (F : FnOk X.prog X.w X.K X.mg X.base CX0 kk f fd ps (spD (clsOf X) false fn)) (hr : Room kk X.A) (hg : Gl X x) (hm : X.mg x = some (.ref f)) (hk : PySem.W.keepIn X.K (.ref f) = true) (hb : Binds X.K fd ps [])
    (ha : DA X m (e :: es) g) (hdb : (x == ("__debug__" : Str)) = false := by decide) (he : starEach (e :: es) X.env = (false, eval e X.env) :: starEach es X.env := by rfl) (hpl : (backTo pos (starEach es X.env)).any (·.1) = false := by rfl) :
    DE X m (.Call (.Name x pp) (e :: es) [] pos) (dCall fn g) := by
  have h := de_callD (pp := pp) (dvs := []) (dds := []) F hr hg hm hk hb .nil (fun _ _ _ => .nil) ha hdb he hpl
  rw [dCall_nil] at h
  exact h
theorem de_callF (F : FnOk X.prog X.w X.K X.mg X.base CX0 kk f fd ps (spD (clsOf X) true fn)) (hr : Room kk X.A) (hg : Gl X x) (hm : X.mg x = some (.ref f)) (hk : PySem.W.keepIn X.K (.ref f) = true) (hb : Binds X.K fd ps [])
    (ha : DA X m (e :: es) g) (hdb : (x == ("__debug__" : Str)) = false := by decide) (he : starEach (e :: es) X.env = (false, eval e X.env) :: starEach es X.env := by rfl) (hpl : (backTo pos (starEach es X.env)).any (·.1) = false := by rfl) :
    DE X .al (.Call (.Name x pp) (e :: es) [] pos) (dCall fn g) := by
  have h := de_callD (pp := pp) (dvs := []) (dds := []) F hr hg hm hk hb .nil (fun _ _ _ => .nil) ha hdb he hpl
  rw [dCall_nil] at h
  exact h
/-- f(.., k = v): gD puts the data in the parameters' order -/
def dCallK (fn : PF) (gD : List D → List D → List D) (g gk : AF) : EF := fun ρ p => (g ρ p).bind fun x => (gk ρ x.2).bind fun y => fn (gD x.1 y.1) y.2
end

/-! ### a def keeps its promise -/
def startD (N : List Str) (fr : Bool) (ds : List D) : DEnv := ds.map (fun d => if fr = true then .ro d else .sh d) ++ List.replicate (N.length - ds.length) .no
/-- a body's answer -/
def runD (N : List Str) (fr : Bool) (g : SF) : PF := fun ds p => (g (startD N fr ds) p).bind fun x => match x.1 with
  | .rt d => some (d, x.2.2)
  | .nx => some (.non, x.2.2)
  | _ => none
theorem start_get {N : List Str} {vs : List V} {i : Nat} {v : V} (h : vs[i]? = some v) : (L2.start N vs)[i]? = some (some v) := by
  unfold L2.start
  rw [List.getElem?_append_left (by rw [List.length_map]; exact (List.getElem?_eq_some_iff.mp h).1), List.getElem?_map, h]
  rfl
theorem startD_get {N : List Str} {fr : Bool} {ds : List D} {i : Nat} {s : Slot} (h : (startD N fr ds)[i]? = some s) : s = .no ∨ ∃ d, ds[i]? = some d ∧ s = if fr = true then .ro d else .sh d := by
  unfold startD at h
  by_cases hi : i < ds.length
  · rw [List.getElem?_append_left (by rw [List.length_map]; exact hi), List.getElem?_map] at h
    cases e : ds[i]? with
    | none => rw [e] at h; cases h
    | some d =>
      rw [e] at h
      exact .inr ⟨d, rfl, (Option.some.inj h).symm⟩
  · rw [List.getElem?_append_right (by rw [List.length_map]; omega)] at h
    exact .inl (List.eq_of_mem_replicate (List.mem_of_getElem? h))
/-- the state at a def's start -/
theorem ok_start {C pa : Addr} {N : List Str} {fr : Bool} {vs : List V} {ds : List D} {S : Addr → Prop} (hp : H pa = some (potO p)) (nS : ¬ S pa) (r : RepAll ⟨C, pa⟩ S H vs ds) (hl : ds.length ≤ N.length) :
    Ok C ⟨⟨C, pa⟩, fun a => (fr = false ∧ S a) ∨ H a = none ∨ a = pa ∨ ∃ dx fs, H a = some (.ins C dx fs), fun a => a = pa, part H (fun a => a ≠ pa), fun _ => none⟩ (startD N fr ds) p (L2.start N vs) H := by
  have len := r.length
  have noOwn : ∀ a, ¬ OwnAt (startD N fr ds) (L2.start N vs) a := fun a ⟨i, l, e, _⟩ => by
    rcases startD_get e with z | ⟨d, _, z⟩
    · cases z
    · cases fr <;> cases z
  refine ⟨rfl, hp, rfl, fun a e => by rw [show a = pa from e, hp]; exact (fun z => nomatch z), fun a o e => (part_some (S := fun a => a ≠ pa).mp e).2, fun a o e => (part_some (S := fun a => a ≠ pa).mp e).1, fun a e => ?_, ?_, fun i s e => ?_, fun i j l m a e1 e2 e3 e4 => (noOwn a ⟨i, l, e1, e3⟩).elim, fun a o e => (nomatch e), fun a o e => (nomatch e), fun a dx fs e => ⟨.inr (.inr (.inr ⟨dx, fs, e⟩)), fun z : a = pa => by rw [z, hp] at e; cases e⟩⟩
  · by_cases ha : a = pa
    · exact .inr (.inr (.inl ha))
    · right
      left
      cases q : H a with
      | none => rfl
      | some o =>
        have z : part H (fun a => a ≠ pa) a = some o := part_some.mpr ⟨ha, q⟩
        exact absurd (z.symm.trans e) (fun z => nomatch z)
  · unfold startD L2.start
    simp only [List.length_append, List.length_map, List.length_replicate]
    omega
  · rcases startD_get e with rfl | ⟨d, ed, rfl⟩
    · trivial
    · obtain ⟨v, ev, rv⟩ := r.get ed
      cases fr with
      | true => exact ⟨v, start_get ev, rv.weak fun a n => ⟨fun z => nS (z ▸ n), noOwn a⟩⟩
      | false => exact ⟨v, start_get ev, rv.weak fun a n => ⟨.inl ⟨rfl, n⟩, fun z => nS (z ▸ n), noOwn a⟩⟩
def defD (n : Nat) (N : List Str) (fr : Bool) (g : SF) : PF := fun ds p => if ds.length = n then runD N fr g ds p else none
theorem defD_eq {n : Nat} {N : List Str} {fr : Bool} {g : SF} {ds : List D} (h : ds.length = n) : defD n N fr g ds p = runD N fr g ds p := by
  unfold defD
  rw [if_pos h]
theorem dok {P : Program} {w : World} {K : PySem.W.Frag} {mg : Str → Option Value} {base : Heap} {x qual : Str} {st : Stmt} {f : Addr} {fd : FuncData} {N ps : List Str} {kk : Nat} {fr : Bool} {g : SF} (F : L2.Fun K x qual st f fd) (S : FnScope N ps (defScope st)) (hps : ps.length ≤ N.length)
    (hbody : ∀ (cdv : Value) (A : Around) (outer : List Env) (s : Shared) (H : Hp) (E : XK), Room kk (A.deeper (envOfC qual (defScope st) s.heap.objs.size f cdv)) →
      DSs (cxOf CX0 P w K mg base N qual (defScope st) f cdv A outer s H E).nox (defBody st) g) : FnOk P w K mg base CX0 (kk + 1) f fd ps (spD (clsM mg) fr (defD ps.length N fr g)) := by
  have hlen : ∀ vs H Q E, spD (clsM mg) fr (defD ps.length N fr g) vs H Q E → vs.length = ps.length := fun vs H Q E ⟨pa, S', p, ds, d, p', _, _, r, e, _⟩ => by
    unfold defD at e
    split at e
    · rename_i hl
      rw [r.length, hl]
    · cases e
  refine F.ok S hlen fun cdv A outer s H vs Q E hr h => ⟨_, hbody cdv A outer s H E hr, ?_⟩
  obtain ⟨pa, S', p, ds, d, p', hp, nS, r, e, q⟩ := h
  unfold defD at e
  split at e
  · rename_i hl
    unfold runD at e
    cases e1 : g (startD N fr ds) p with
    | none => rw [e1] at e; cases e
    | some y =>
      obtain ⟨fl, ρ', p1⟩ := y
      rw [e1] at e
      simp only [Option.bind_some] at e
      refine ⟨_, _, p, ok_start hp nS r (by rw [hl]; exact hps), fl, ρ', p1, e1, fun σ' H' o => ?_⟩
      have kp : ∀ (a : Addr) (u : HO), a ≠ pa → H a = some u → H' a = some u := fun a u n z => o.h0 a u (part_some (S := fun a => a ≠ pa).mpr ⟨n, z⟩)
      cases fl with
      | nx =>
        cases e
        exact q .non H' ⟨kp, o.pot⟩ .non
      | rt d' =>
        cases e
        exact fun v rv => q v H' ⟨kp, o.pot⟩ (rv.weak fun a n => by
          rcases n.1 with z | z | z | z
          · exact .inl z
          · exact .inr (.inl z)
          · exact absurd z n.2
          · exact .inr (.inr z))
      | bk => cases e
      | ct => cases e
  · cases e
end DL
namespace DL
open PySem PySem.Spec PyProof.Rows L2
variable {k : Kx} {N N' : Addr → Prop} {H H' H1 H2 : Hp} {w : Wd} {ρ ρ' : DEnv} {σ σ' : L2.St} {p p' p1 p2 : Pot} {X : Cx} {C : Addr} {m m' : Mo}

/-! ### operators on data -/
theorem Ok.kr (h : Ok C w ρ p σ H) : Keep w.k p H H := Keep.refl h
theorem Ok.kn (h : Ok C w ρ p σ H) {a : Addr} {o : HO} (n : H a = none) : Keep w.k p H (upd H a o) := Keep.new h.pot n
def gSub : G2
  | .int a, .int b => some (.int (a - b))
  | _, _ => none
theorem r2_sub : R2Ok C m m' (rI0 fun i j => .int (i - j)) gSub := by
  intro w ρ p σ H x y a b d Q ok ra rb e q
  unfold gSub at e
  split at e <;> cases e
  cases ra
  cases rb
  exact ⟨_, _, rfl, rfl, q _ H ok.kr (.int _)⟩
/-- + of ints, texts, lists, tuples (the left one not empty) -/
def gAdd : G2
  | .int a, .int b => some (.int (a + b))
  | .str a, .str b => if a.length + b.length ≤ 65536 then some (.str (a ++ b)) else none
  | .lst a, .lst b => if a.length + b.length ≤ 65536 then some (.lst (a ++ b)) else none
  | .tup a, .tup b => if a.length + b.length ≤ 65536 ∧ a ≠ [] then some (.tup (a ++ b)) else none
  | _, _ => none
def rAddA (K : PySem.W.Frag) : R2 := fun x y H Q => (rI0 fun i j => .int (i + j)) x y H Q ∨ ((fun x y H Q => ∃ i j, x = .str i ∧ y = .str j ∧ i.length + j.length ≤ sizeLine ∧ Q (.str (i ++ j)) H : R2) x y H Q ∨ (rCat x y H Q ∨ rCatT K x y H Q))
theorem op_addA : OpR X (binaryOp .Add) (rAddA X.K) := op_add.or (op_add_str.or (op_cat.or op_catT))
theorem r2_add {K : PySem.W.Frag} : R2Ok C m m (rAddA K) gAdd := by
  intro w ρ p σ H x y a b d Q ok ra rb e q
  unfold gAdd at e
  split at e
  · cases e
    cases ra
    cases rb
    exact .inl ⟨_, _, rfl, rfl, q _ H ok.kr (.int _)⟩
  · split at e <;> cases e
    rename_i hl
    cases ra
    cases rb
    exact .inr (.inl ⟨_, _, rfl, rfl, small_line hl, q _ H ok.kr (.str _)⟩)
  · split at e <;> cases e
    rename_i hl
    cases ra with
    | lst n1 e1 r1 =>
      cases rb with
      | lst n2 e2 r2 =>
        refine .inr (.inr (.inl ⟨_, _, _, _, rfl, rfl, e1, e2, by rw [r1.length, r2.length]; exact small_line hl, fun c n => ?_⟩))
        exact q _ _ (ok.kn n) (.lst (Md.al (ok.new n)) upd_same ((r1.append r2).upd n))
  · split at e <;> cases e
    rename_i hl
    cases ra with
    | tup n1 e1 r1 =>
      cases rb with
      | tup n2 e2 r2 =>
        refine .inr (.inr (.inr ⟨_, _, _, _, rfl, rfl, SqT.of e1, SqT.of e2, fun z => ?_, by rw [r1.length, r2.length]; exact small_line hl.1, fun z => ?_, fun z c n => ?_⟩))
        · subst z
          cases r1
          exact hl.2 rfl
        · subst z
          cases r2
          rw [List.append_nil] at q
          exact q _ H ok.kr (.tup n1 e1 r1)
        · exact q _ _ (ok.kn n) (.tup (Md.al (ok.new n)) upd_same ((r1.append r2).upd n))
  · cases e
/-- + of ints alone: where the operands may stand anywhere -/
def gAddI : G2
  | .int a, .int b => some (.int (a + b))
  | _, _ => none
theorem r2_addI : R2Ok C m m' (rI0 fun i j => .int (i + j)) gAddI := by
  intro w ρ p σ H x y a b d Q ok ra rb e q
  unfold gAddI at e
  split at e <;> cases e
  cases ra
  cases rb
  exact ⟨_, _, rfl, rfl, q _ H ok.kr (.int _)⟩
instance : Decidable (CMulW a b) := inferInstanceAs (Decidable (a.natAbs.log2 + b.natAbs.log2 < 1000000))
/-- * of ints, of a list by an int -/
def gMul : G2
  | .int a, .int b => if a.natAbs.log2 + b.natAbs.log2 < 1000000 then some (.int (a * b)) else none
  | .lst a, .int n => if -65536 ≤ n ∧ n ≤ 65536 ∧ a.length * n.toNat ≤ 65536 then some (.lst (List.replicate n.toNat a).flatten) else none
  | _, _ => none
def rMulA : R2 := fun x y H Q => (rI CMulW fun i j => .int (i * j)) x y H Q ∨ rRep x y H Q
theorem op_mulA : OpR X (binaryOp .Mult) rMulA := op_mulW.or op_rep
theorem RepAll.rep {xs : List V} {ds : List D} (r : RepAll k N H xs ds) : ∀ n : Nat, RepAll k N H (List.replicate n xs).flatten (List.replicate n ds).flatten
  | 0 => .nil
  | n + 1 => by
    simp only [List.replicate_succ, List.flatten_cons]
    exact r.append (RepAll.rep r n)
theorem r2_mul : R2Ok C m m rMulA gMul := by
  intro w ρ p σ H x y a b d Q ok ra rb e q
  unfold gMul at e
  split at e
  · split at e <;> cases e
    rename_i hl
    cases ra
    cases rb
    exact .inl ⟨_, _, rfl, rfl, hl, q _ H ok.kr (.int _)⟩
  · split at e <;> cases e
    rename_i hl
    cases rb
    cases ra with
    | lst n1 e1 r1 =>
      refine .inr ⟨_, _, _, rfl, rfl, e1, by omega, by omega, by rw [r1.length]; exact small_line hl.2.2, fun c n => ?_⟩
      exact q _ _ (ok.kn n) (.lst (Md.al (ok.new n)) upd_same ((r1.rep _).upd n))
  · cases e
def gMulI : G2
  | .int a, .int b => if a.natAbs.log2 + b.natAbs.log2 < 1000000 then some (.int (a * b)) else none
  | _, _ => none
theorem r2_mulI : R2Ok C m m' (rI CMulW fun i j => .int (i * j)) gMulI := by
  intro w ρ p σ H x y a b d Q ok ra rb e q
  unfold gMulI at e
  split at e
  · split at e <;> cases e
    rename_i hl
    cases ra
    cases rb
    exact ⟨_, _, rfl, rfl, hl, q _ H ok.kr (.int _)⟩
  · cases e
def CDivA (_ j : Int) : Prop := j ≠ 0 ∧ j.natAbs.log2 < 9000
theorem op_fdivA : OpR X (binaryOp .FloorDiv) (rI CDivA fun i j => .int (i.fdiv j)) := opI fun i j _ _ _ _ _ hc q => floordiv_int hc.1 q (.inl (PyProof.noPylong_of_log2 hc.2))
def gFdiv : G2
  | .int a, .int b => if b ≠ 0 ∧ b.natAbs.log2 < 9000 then some (.int (a.fdiv b)) else none
  | _, _ => none
theorem r2_fdiv : R2Ok C m m' (rI CDivA fun i j => .int (i.fdiv j)) gFdiv := by
  intro w ρ p σ H x y a b d Q ok ra rb e q
  unfold gFdiv at e
  split at e
  · split at e <;> cases e
    rename_i hl
    cases ra
    cases rb
    exact ⟨_, _, rfl, rfl, hl, q _ H ok.kr (.int _)⟩
  · cases e
def gMod : G2
  | .int a, .int b => if b ≠ 0 then some (.int (a.fmod b)) else none
  | _, _ => none
theorem r2_mod : R2Ok C m m' (rI (fun _ j => j ≠ 0) fun i j => .int (i.fmod j)) gMod := by
  intro w ρ p σ H x y a b d Q ok ra rb e q
  unfold gMod at e
  split at e
  · split at e <;> cases e
    rename_i hl
    cases ra
    cases rb
    exact ⟨_, _, rfl, rfl, hl, q _ H ok.kr (.int _)⟩
  · cases e
def gPow : G2
  | .int a, .int b => if 0 ≤ b ∧ b ≤ 1000000 ∧ a.natAbs < 2 ^ 64 then some (.int (a ^ b.toNat)) else none
  | _, _ => none
theorem r2_pow : R2Ok C m m' (rI CPow fun i j => .int (i ^ j.toNat)) gPow := by
  intro w ρ p σ H x y a b d Q ok ra rb e q
  unfold gPow at e
  split at e
  · split at e <;> cases e
    rename_i hl
    cases ra
    cases rb
    exact ⟨_, _, rfl, rfl, hl, q _ H ok.kr (.int _)⟩
  · cases e
/-- order of ints -/
def gRel (P : Int → Int → Bool) : G2
  | .int a, .int b => some (.bl (P a b))
  | _, _ => none
theorem r2_rel {P : Int → Int → Bool} : R2Ok C m m' (rI0 fun i j => .bl (P i j)) (gRel P) := by
  intro w ρ p σ H x y a b d Q ok ra rb e q
  unfold gRel at e
  split at e <;> cases e
  cases ra
  cases rb
  exact ⟨_, _, rfl, rfl, q _ H ok.kr (.bl _)⟩
abbrev gLt : G2 := gRel fun i j => decide (i < j)
abbrev gLe : G2 := gRel fun i j => decide (i ≤ j)
abbrev gGt : G2 := gRel fun i j => decide (j < i)
abbrev gGe : G2 := gRel fun i j => decide (j ≤ i)
/-! == -/
mutual
def toPy : D → Option PyData
  | .non => some .none
  | .bl b => some (.bool b)
  | .int i => some (.int i)
  | .str x => some (.str x)
  | .lst l => (toPyAll l).map .list
  | .tup l => (toPyAll l).map .tuple
  | _ => none
def toPyAll : List D → Option (List PyData)
  | [] => some []
  | d :: ds => (toPy d).bind fun x => (toPyAll ds).map fun xs => x :: xs
end
mutual
theorem rep_dp {K : PySem.W.Frag} : ∀ (d : D) {v : V} {x : PyData}, Rep k N H v d → toPy d = some x → Dp K H v x
  | .non, _, _, r, e => by cases r; cases e; exact .non
  | .bl _, _, _, r, e => by cases r; cases e; exact .bl _
  | .int _, _, _, r, e => by cases r; cases e; exact .int _
  | .str _, _, _, r, e => by cases r; cases e; exact .str _
  | .lst l, _, _, r, e => by
    unfold toPy at e
    cases r with
    | lst n1 e1 r1 =>
      cases e2 : toPyAll l with
      | none => rw [e2] at e; cases e
      | some xs =>
        rw [e2] at e
        cases e
        exact .lst (SqL.of e1) (repAll_dp l r1 e2)
  | .tup l, _, _, r, e => by
    unfold toPy at e
    cases r with
    | tup n1 e1 r1 =>
      cases e2 : toPyAll l with
      | none => rw [e2] at e; cases e
      | some xs =>
        rw [e2] at e
        cases e
        exact .tup (SqT.of e1) (repAll_dp l r1 e2)
  | .rat _ _, _, _, _, e => by unfold toPy at e; cases e
  | .edict, _, _, _, e => by unfold toPy at e; cases e
  | .pot, _, _, _, e => by unfold toPy at e; cases e
  | .ty _, _, _, _, e => by unfold toPy at e; cases e
  | .obj _, _, _, _, e => by unfold toPy at e; cases e
theorem repAll_dp {K : PySem.W.Frag} : ∀ (d : List D) {v : List V} {x : List PyData}, RepAll k N H v d → toPyAll d = some x → DpAll K H v x
  | [], _, _, r, e => by cases r; cases e; exact .nil
  | d :: ds, _, _, r, e => by
    unfold toPyAll at e
    cases r with
    | cons r1 r2 =>
      cases e1 : toPy d with
      | none => rw [e1] at e; cases e
      | some x =>
        rw [e1] at e
        simp only [Option.bind_some] at e
        cases e2 : toPyAll ds with
        | none => rw [e2] at e; cases e
        | some xs =>
          rw [e2] at e
          cases e
          exact .cons (rep_dp d r1 e1) (repAll_dp ds r2 e2)
end
/-- == of data without Ratios -/
def eqD (a b : D) : Option Bool := (toPy a).bind fun x => (toPy b).bind fun y => if SeqAt.shaped x = true ∧ SeqAt.shaped y = true then some (PyData.eqv x y) else none
def gEq : G2 := fun a b => (eqD a b).map .bl
def gNe : G2 := fun a b => (eqD a b).map fun x => .bl (!x)
theorem eqD_some {a b : D} {r : Bool} (h : eqD a b = some r) : ∃ x y, toPy a = some x ∧ toPy b = some y ∧ SeqAt.shaped x = true ∧ SeqAt.shaped y = true ∧ r = PyData.eqv x y := by
  unfold eqD at h
  cases e1 : toPy a with
  | none => rw [e1] at h; cases h
  | some x =>
    rw [e1] at h
    simp only [Option.bind_some] at h
    cases e2 : toPy b with
    | none => rw [e2] at h; cases h
    | some y =>
      rw [e2] at h
      simp only [Option.bind_some] at h
      split at h
      · rename_i hs
        cases h
        exact ⟨x, y, rfl, rfl, hs.1, hs.2, rfl⟩
      · cases h
theorem r2_eq {K : PySem.W.Frag} : R2Ok C m m' (rEqD K) gEq := by
  intro w ρ p σ H x y a b d Q ok ra rb e q
  unfold gEq at e
  cases e1 : eqD a b with
  | none => rw [e1] at e; cases e
  | some r =>
    rw [e1] at e
    cases e
    obtain ⟨x', y', h1, h2, h3, h4, rfl⟩ := eqD_some e1
    exact ⟨x', y', rep_dp _ ra h1, rep_dp _ rb h2, h3, h4, q _ H ok.kr (.bl _)⟩
theorem r2_ne {K : PySem.W.Frag} : R2Ok C m m' (rNeD K) gNe := by
  intro w ρ p σ H x y a b d Q ok ra rb e q
  unfold gNe at e
  cases e1 : eqD a b with
  | none => rw [e1] at e; cases e
  | some r =>
    rw [e1] at e
    cases e
    obtain ⟨x', y', h1, h2, h3, h4, rfl⟩ := eqD_some e1
    exact ⟨x', y', rep_dp _ ra h1, rep_dp _ rb h2, h3, h4, q _ H ok.kr (.bl _)⟩
/-! is None -/
def D.isNon : D → Bool
  | .non => true
  | _ => false
theorem isNon_iff {v : V} {d : D} (r : Rep k N H v d) : decide (v = .non) = d.isNon := by
  cases r <;> rfl
def gIsN : G2
  | a, .non => some (.bl a.isNon)
  | _, _ => none
def gNotN : G2
  | a, .non => some (.bl (!a.isNon))
  | _, _ => none
theorem r2_isN : R2Ok C m m' (fun x y H Q => y = .non ∧ Q (.bl (decide (x = .non))) H) gIsN := by
  intro w ρ p σ H x y a b d Q ok ra rb e q
  unfold gIsN at e
  split at e <;> cases e
  cases rb
  rw [isNon_iff ra]
  exact ⟨rfl, q _ H ok.kr (.bl _)⟩
theorem r2_notN : R2Ok C m m' (fun x y H Q => y = .non ∧ Q (.bl (!decide (x = .non))) H) gNotN := by
  intro w ρ p σ H x y a b d Q ok ra rb e q
  unfold gNotN at e
  split at e <;> cases e
  cases rb
  rw [isNon_iff ra]
  exact ⟨rfl, q _ H ok.kr (.bl _)⟩
/-! ### subscripts -/
def gIx : G2
  | .lst l, .int i => atI l i
  | .tup l, .int i => atI l i
  | _, _ => none
theorem RepAll.atI {xs : List V} {ds : List D} {i : Int} {d : D} (r : RepAll k N H xs ds) (e : L2.atI ds i = some d) : ∃ v, L2.atI xs i = some v ∧ Rep k N H v d := by
  unfold L2.atI at e ⊢
  rw [r.length]
  cases q : ixN ds.length i with
  | none => rw [q] at e; cases e
  | some j =>
    rw [q] at e
    exact r.get e
theorem r2_ix {K : PySem.W.Frag} : R2Ok C m m (rIx K) gIx := by
  intro w ρ p σ H x y a b d Q ok ra rb e q
  unfold gIx at e
  split at e
  · cases rb
    cases ra with
    | lst n1 e1 r1 =>
      obtain ⟨v, ev, rv⟩ := r1.atI e
      exact .inl ⟨_, _, _, v, rfl, rfl, SqL.of e1, ev, q v H ok.kr rv⟩
  · cases rb
    cases ra with
    | tup n1 e1 r1 =>
      obtain ⟨v, ev, rv⟩ := r1.atI e
      exact .inr (.inl ⟨_, _, _, v, rfl, rfl, SqT.of e1, ev, q v H ok.kr rv⟩)
  · cases e
/-- o[lo:hi] -/
abbrev PFo := DEnv → Pot → Option (Option Int × Pot)
def tDO (C : Addr) (f : PFo) : TO := fun σ H Q => ∃ w ρ p, Ok C w ρ p σ H ∧ ∃ o p', f ρ p = some (o, p') ∧ ∀ H', Keep w.k p' H H' → Q o H'
def DO (X : Cx) (e : Option Expr) (f : PFo) : Prop := PO X e (tDO (clsOf X) f)
theorem PO.weak {e : Option Expr} {t t' : TO} (h : PO X e t) (i : ∀ σ H Q, t' σ H Q → t σ H Q) : PO X e t' := ⟨fun pins s σ H Q I q => h.run pins s σ H Q I (i _ _ _ q)⟩
def oNone : PFo := fun _ p => some (none, p)
def oSome (f : EF) : PFo := fun ρ p => (f ρ p).bind fun x => match x.1 with
  | .int i => some (some i, x.2)
  | _ => none
theorem do_none : DO X none oNone := PO.weak po_none fun σ H Q ⟨w, ρ, p, ok, o, p', e, q⟩ => by
  cases e
  exact q H ok.kr
theorem do_some {e : Expr} {f : EF} (h : DE X m e f) : DO X (some e) (oSome f) := PO.weak (po_some h) fun σ H Q ⟨w, ρ, p, ok, o, p', e, q⟩ => by
  unfold oSome at e
  cases e1 : f ρ p with
  | none => rw [e1] at e; cases e
  | some x =>
    obtain ⟨d, p1⟩ := x
    rw [e1] at e
    simp only [Option.bind_some] at e
    cases d <;> first | cases e | skip
    exact ⟨w, ρ, p, ok, _, _, e1, fun v H1 k1 r => by cases r; exact ⟨_, rfl, q H1 k1⟩⟩
def cutD (l : List D) (lo hi : Option Int) : List D := (l.drop (HT.sIx l.length 0 lo)).take (HT.sIx l.length l.length hi - HT.sIx l.length 0 lo)
def gSl (d : D) (lo hi : Option Int) : Option D := match d with
  | .lst l => some (.lst (cutD l lo hi))
  | .tup l => some (.tup (cutD l lo hi))
  | _ => none
def dSl (f : EF) (lo hi : PFo) : EF := fun ρ p => (f ρ p).bind fun x => (lo ρ x.2).bind fun y => (hi ρ y.2).bind fun z => (gSl x.1 y.1 z.1).map fun d => (d, z.2)
theorem RepAll.cut {xs : List V} {ds : List D} (r : RepAll k N H xs ds) (lo hi : Option Int) : RepAll k N H (cutV xs lo hi) (cutD ds lo hi) := by
  unfold cutV cutD
  rw [r.length]
  exact (r.drop _).take _
end DL
namespace DL
open PySem PySem.Spec PyProof.Rows L2
variable {k : Kx} {N N' : Addr → Prop} {H H' H1 H2 : Hp} {w : Wd} {ρ ρ' : DEnv} {σ σ' : L2.St} {p p' p1 p2 : Pot} {X : Cx} {C : Addr} {m m' : Mo}

/-! ### slices -/
def SlOk (C : Addr) (m : Mo) (r : V → Option Int → Option Int → Hp → VK → Prop) (g : D → Option Int → Option Int → Option D) : Prop := ∀ (w : Wd) (ρ : DEnv) (p : Pot) (σ : L2.St) (H : Hp) (x : V) (a d : D) (lo hi : Option Int) (Q : VK), Ok C w ρ p σ H → Rep w.k (Md m w ρ σ) H x a → g a lo hi = some d →
  (∀ v H', Keep w.k p H H' → Rep w.k (Md m w ρ σ) H' v d → Q v H') → r x lo hi H Q
def dSlG (g : D → Option Int → Option Int → Option D) (f : EF) (lo hi : PFo) : EF := fun ρ p => (f ρ p).bind fun x => (lo ρ x.2).bind fun y => (hi ρ y.2).bind fun z => (g x.1 y.1 z.1).map fun d => (d, z.2)
theorem de_slice {e : Expr} {lo hi : Option Expr} {f : EF} {fl fh : PFo} {p2 pos : Pos} {r : V → Option Int → Option Int → Hp → VK → Prop} {g : D → Option Int → Option Int → Option D} (hr : SlR X r) (hg : SlOk (clsOf X) m r g) (he : DE X m e f) (hl : DO X lo fl) (hh : DO X hi fh) : DE X m (.Subscript e (.Slice lo hi none p2) pos) (dSlG g f fl fh) := by
  refine PE.weak (pe_slice hr he hl hh) fun σ H Q ⟨w, ρ, p, ok, d, p', e, q⟩ => ?_
  unfold dSlG at e
  cases e1 : f ρ p with
  | none => rw [e1] at e; cases e
  | some x =>
    obtain ⟨a, p1⟩ := x
    rw [e1] at e
    simp only [Option.bind_some] at e
    cases e2 : fl ρ p1 with
    | none => rw [e2] at e; cases e
    | some y =>
      obtain ⟨ol, p2⟩ := y
      rw [e2] at e
      simp only [Option.bind_some] at e
      cases e3 : fh ρ p2 with
      | none => rw [e3] at e; cases e
      | some z =>
        obtain ⟨oh, p3⟩ := z
        rw [e3] at e
        simp only [Option.bind_some] at e
        cases e4 : g a ol oh with
        | none => rw [e4] at e; cases e
        | some d' =>
          rw [e4] at e
          cases e
          refine ⟨w, ρ, p, ok, a, p1, e1, fun v H1 k1 r1 => ⟨w, ρ, p1, ok.keep k1, ol, p2, e2, fun H2 k2 => ⟨w, ρ, p2, (ok.keep k1).keep k2, oh, p', e3, fun H3 k3 => ?_⟩⟩⟩
          have o1 := ok.keep k1
          have o3 := (o1.keep k2).keep k3
          exact hg w ρ p' σ H3 v a d ol oh Q o3 ((r1.on o1 k2).on (o1.keep k2) k3) e4 fun u H4 k4 r4 => q u H4 ((k1.trans k2).trans (k3.trans k4)) r4
def gSlL (d : D) (lo hi : Option Int) : Option D := match d with
  | .lst l => some (.lst (cutD l lo hi))
  | _ => none
theorem sl_ok_list {K : PySem.W.Frag} : SlOk C m (rSlL K) gSlL := by
  intro w ρ p σ H x a d lo hi Q ok ra e q
  unfold gSlL at e
  split at e <;> cases e
  cases ra with
  | lst n1 e1 r1 => exact ⟨_, _, rfl, SqL.of e1, fun c n => q _ _ (ok.kn n) (.lst (Md.al (ok.new n)) upd_same ((r1.cut lo hi).upd n))⟩
def gSlT (d : D) (lo hi : Option Int) : Option D := match d with
  | .tup l => if HT.sIx l.length 0 lo = 0 ∧ HT.sIx l.length l.length hi = l.length then none else some (.tup (cutD l lo hi))
  | _ => none
theorem sl_ok_tup {K : PySem.W.Frag} : SlOk C m (rSlT K) gSlT := by
  intro w ρ p σ H x a d lo hi Q ok ra e q
  unfold gSlT at e
  split at e
  · split at e <;> cases e
    rename_i hn
    cases ra with
    | tup n1 e1 r1 => exact ⟨_, _, rfl, SqT.of e1, by rw [r1.length]; exact hn, fun c n => q _ _ (ok.kn n) (.tup (Md.al (ok.new n)) upd_same ((r1.cut lo hi).upd n))⟩
  · cases e

/-! ### built-in functions -/
def gLen : GA
  | [.lst l] => some (.int l.length)
  | [.tup l] => some (.int l.length)
  | _ => none
theorem ra_len {K : PySem.W.Frag} : RAOk C m m' (fun xs H Q => ∃ p ys, xs = [.ref p] ∧ (SqL K H p ys ∨ SqT K H p ys) ∧ Q (.int ys.length) H) gLen := by
  intro w ρ p σ H xs ds d Q ok r e q
  unfold gLen at e
  split at e <;> cases e
  · cases r with
    | cons r1 r2 =>
      cases r2
      cases r1 with
      | lst n1 e1 r1 => exact ⟨_, _, rfl, .inl (SqL.of e1), by rw [r1.length]; exact q _ H ok.kr (.int _)⟩
  · cases r with
    | cons r1 r2 =>
      cases r2
      cases r1 with
      | tup n1 e1 r1 => exact ⟨_, _, rfl, .inr (SqT.of e1), by rw [r1.length]; exact q _ H ok.kr (.int _)⟩
def gAbs : GA
  | [.int i] => some (.int (if i < 0 then -i else i))
  | _ => none
theorem ra_abs : RAOk C m m' (fun xs H Q => ∃ i, xs = [.int i] ∧ Q (.int (if i < 0 then -i else i)) H) gAbs := by
  intro w ρ p σ H xs ds d Q ok r e q
  unfold gAbs at e
  split at e <;> cases e
  cases r with
  | cons r1 r2 =>
    cases r2
    cases r1
    exact ⟨_, rfl, q _ H ok.kr (.int _)⟩
def gMax2 : GA
  | [.int i, .int j] => some (.int (if j > i then j else i))
  | _ => none
theorem ra_max2 : RAOk C m m' (fun xs H Q => ∃ i j, xs = [.int i, .int j] ∧ Q (.int (if j > i then j else i)) H) gMax2 := by
  intro w ρ p σ H xs ds d Q ok r e q
  unfold gMax2 at e
  split at e <;> cases e
  cases r with
  | cons r1 r2 =>
    cases r1
    cases r2 with
    | cons r1 r2 =>
      cases r1
      cases r2
      exact ⟨_, _, rfl, q _ H ok.kr (.int _)⟩
def gMin2 : GA
  | [.int i, .int j] => some (.int (if j < i then j else i))
  | _ => none
theorem ra_min2 : RAOk C m m' (fun xs H Q => ∃ i j, xs = [.int i, .int j] ∧ Q (.int (if j < i then j else i)) H) gMin2 := by
  intro w ρ p σ H xs ds d Q ok r e q
  unfold gMin2 at e
  split at e <;> cases e
  cases r with
  | cons r1 r2 =>
    cases r1
    cases r2 with
    | cons r1 r2 =>
      cases r1
      cases r2
      exact ⟨_, _, rfl, q _ H ok.kr (.int _)⟩
/-- int(x) -/
def gInt : GA
  | [.int i] => some (.int i)
  | [.bl b] => some (.int (if b then 1 else 0))
  | _ => none
theorem ra_int : RAOk C m m' (fun xs H Q => (∃ i, xs = [.int i] ∧ Q (.int i) H) ∨ ∃ k, xs = [.bl k] ∧ Q (.int (if k then 1 else 0)) H) gInt := by
  intro w ρ p σ H xs ds d Q ok r e q
  unfold gInt at e
  split at e <;> cases e
  · cases r with
    | cons r1 r2 =>
      cases r2
      cases r1
      exact .inl ⟨_, rfl, q _ H ok.kr (.int _)⟩
  · cases r with
    | cons r1 r2 =>
      cases r2
      cases r1
      exact .inr ⟨_, rfl, q _ H ok.kr (.int _)⟩
def gStr : GA
  | [.int i] => if i.natAbs.log2 < 1920 then some (.str (toString i)) else none
  | _ => none
theorem ra_str : RAOk C m m' (fun xs H Q => ∃ i, xs = [.int i] ∧ i.natAbs.log2 < 1920 ∧ Q (.str (toString i)) H) gStr := by
  intro w ρ p σ H xs ds d Q ok r e q
  unfold gStr at e
  split at e
  · split at e <;> cases e
    rename_i hl
    cases r with
    | cons r1 r2 =>
      cases r2
      cases r1
      exact ⟨_, rfl, hl, q _ H ok.kr (.str _)⟩
  · cases e
def gGcd : GA
  | [.int i, .int j] => some (.int ((Nat.gcd i.natAbs j.natAbs : Nat) : Int))
  | _ => none
theorem ra_gcd : RAOk C m m' rGcd gGcd := by
  intro w ρ p σ H xs ds d Q ok r e q
  unfold gGcd at e
  split at e <;> cases e
  cases r with
  | cons r1 r2 =>
    cases r1
    cases r2 with
    | cons r1 r2 =>
      cases r1
      cases r2
      exact ⟨_, _, rfl, q _ H ok.kr (.int _)⟩
def rLcm : List V → Hp → VK → Prop := fun vs H Q => ∃ a b : Int, vs = [.int a, .int b] ∧ a.natAbs < 2 ^ 64 ∧ b.natAbs < 2 ^ 64 ∧ Q (.int ((Nat.lcm a.natAbs b.natAbs : Nat) : Int)) H
theorem cr_lcm : CallR X (.builtin "math.lcm") rLcm := by
  intro pins s σ H vs us Q I r h
  obtain ⟨a, b, rfl, ha, hb, q⟩ := h
  obtain ⟨t, u, rfl⟩ := Vals.int2 r
  have e : Nat.lcm 1 a.natAbs = a.natAbs := by simp [Nat.lcm]
  refine PySem.W.mg_lcm ha hb ?_ ?_
  · rw [e]
    have hle : a.natAbs.lcm b.natAbs ≤ a.natAbs * b.natAbs := by
      unfold Nat.lcm
      exact Nat.div_le_self _ _
    have h2 : a.natAbs * b.natAbs < 2 ^ 128 := by
      have : (2 : Nat) ^ 128 = 2 ^ 64 * 2 ^ 64 := by decide
      rw [this]
      exact Nat.mul_lt_mul'' ha hb
    have h3 : a.natAbs.lcm b.natAbs < 2 ^ 128 := Nat.lt_of_le_of_lt hle h2
    rw [Int.natAbs_natCast]
    have h4 : (a.natAbs.lcm b.natAbs).log2 ≤ 127 := PySem.W.mg_log h3
    have h5 : bitsLine = 134217728 := by decide
    omega
  · rw [e]
    exact ⟨.int _, H, I.tok _, ⟨_, rfl⟩, q⟩
def gLcm : GA
  | [.int i, .int j] => if i.natAbs < 2 ^ 64 ∧ j.natAbs < 2 ^ 64 then some (.int ((Nat.lcm i.natAbs j.natAbs : Nat) : Int)) else none
  | _ => none
theorem ra_lcm : RAOk C m m' rLcm gLcm := by
  intro w ρ p σ H xs ds d Q ok r e q
  unfold gLcm at e
  split at e
  · split at e <;> cases e
    rename_i hl
    cases r with
    | cons r1 r2 =>
      cases r1
      cases r2 with
      | cons r1 r2 =>
        cases r1
        cases r2
        exact ⟨_, _, rfl, hl.1, hl.2, q _ H ok.kr (.int _)⟩
  · cases e
/-- lists of one kind -/
def intsOf : List D → Option (List Int)
  | [] => some []
  | .int i :: ds => (intsOf ds).map fun l => i :: l
  | _ => none
def blsOf : List D → Option (List Bool)
  | [] => some []
  | .bl i :: ds => (blsOf ds).map fun l => i :: l
  | _ => none
theorem repAll_ints : ∀ {ds : List D} {xs : List V} {l : List Int}, RepAll k N H xs ds → intsOf ds = some l → xs = l.map V.int
  | [], _, _, r, e => by cases r; cases e; rfl
  | d :: ds, _, _, r, e => by
    cases r with
    | cons r1 r2 =>
      cases d <;> first | cases e | skip
      unfold intsOf at e
      cases e1 : intsOf ds with
      | none => rw [e1] at e; cases e
      | some l' =>
        rw [e1] at e
        cases e
        cases r1
        rw [repAll_ints r2 e1]
        rfl
theorem repAll_bls : ∀ {ds : List D} {xs : List V} {l : List Bool}, RepAll k N H xs ds → blsOf ds = some l → xs = l.map V.bl
  | [], _, _, r, e => by cases r; cases e; rfl
  | d :: ds, _, _, r, e => by
    cases r with
    | cons r1 r2 =>
      cases d <;> first | cases e | skip
      unfold blsOf at e
      cases e1 : blsOf ds with
      | none => rw [e1] at e; cases e
      | some l' =>
        rw [e1] at e
        cases e
        cases r1
        rw [repAll_bls r2 e1]
        rfl
def gAll : GA
  | [.lst l] => (blsOf l).map fun bs => .bl (bs.all id)
  | _ => none
theorem ra_all {K : PySem.W.Frag} : RAOk C m m' (rAll K) gAll := by
  intro w ρ p σ H xs ds d Q ok r e q
  unfold gAll at e
  split at e
  · rename_i l
    cases e1 : blsOf l with
    | none => rw [e1] at e; cases e
    | some bs =>
      rw [e1] at e
      cases e
      cases r with
      | cons r1 r2 =>
        cases r2
        cases r1 with
        | lst n1 e2 r1 =>
          rw [repAll_bls r1 e1] at e2
          exact ⟨_, bs, rfl, SqL.of e2, q _ H ok.kr (.bl _)⟩
  · cases e
def gAny : GA
  | [.lst l] => (blsOf l).map fun bs => .bl (bs.any id)
  | _ => none
theorem ra_any {K : PySem.W.Frag} : RAOk C m m' (rAny K) gAny := by
  intro w ρ p σ H xs ds d Q ok r e q
  unfold gAny at e
  split at e
  · rename_i l
    cases e1 : blsOf l with
    | none => rw [e1] at e; cases e
    | some bs =>
      rw [e1] at e
      cases e
      cases r with
      | cons r1 r2 =>
        cases r2
        cases r1 with
        | lst n1 e2 r1 =>
          rw [repAll_bls r1 e1] at e2
          exact ⟨_, bs, rfl, SqL.of e2, q _ H ok.kr (.bl _)⟩
  · cases e
def gSum : GA
  | [.lst l] => (intsOf l).map fun bs => .int bs.sum
  | _ => none
theorem ra_sum {K : PySem.W.Frag} : RAOk C m m' (rSum K) gSum := by
  intro w ρ p σ H xs ds d Q ok r e q
  unfold gSum at e
  split at e
  · rename_i l
    cases e1 : intsOf l with
    | none => rw [e1] at e; cases e
    | some bs =>
      rw [e1] at e
      cases e
      cases r with
      | cons r1 r2 =>
        cases r2
        cases r1 with
        | lst n1 e2 r1 =>
          rw [repAll_ints r1 e1] at e2
          exact ⟨_, bs, rfl, SqL.of e2, q _ H ok.kr (.int _)⟩
  · cases e
/-- the greatest, the least of ints -/
def maxI : List Int → Option Int
  | [] => none
  | x :: xs => some (xs.foldl max x)
def minI : List Int → Option Int
  | [] => none
  | x :: xs => some (xs.foldl min x)
theorem foldl_max (l : List Int) : ∀ x : Int, (∀ m : Int, (m = x ∨ m ∈ l) → (∀ y, (y = x ∨ y ∈ l) → y ≤ m) → m = l.foldl max x) := by
  induction l with
  | nil => intro x m hm _; rcases hm with h | h; exact h; cases h
  | cons a l ih =>
    intro x m hm hy
    show m = l.foldl max (max x a)
    have hx := hy x (.inl rfl)
    have ha := hy a (.inr List.mem_cons_self)
    refine ih (max x a) m ?_ fun y h => ?_
    · rcases hm with h | h
      · left; omega
      · rcases List.mem_cons.mp h with h | h
        · left; omega
        · exact .inr h
    · rcases h with h | h
      · omega
      · exact hy y (.inr (List.mem_cons_of_mem _ h))
theorem foldl_min (l : List Int) : ∀ x : Int, (∀ m : Int, (m = x ∨ m ∈ l) → (∀ y, (y = x ∨ y ∈ l) → m ≤ y) → m = l.foldl min x) := by
  induction l with
  | nil => intro x m hm _; rcases hm with h | h; exact h; cases h
  | cons a l ih =>
    intro x m hm hy
    show m = l.foldl min (min x a)
    have hx := hy x (.inl rfl)
    have ha := hy a (.inr List.mem_cons_self)
    refine ih (min x a) m ?_ fun y h => ?_
    · rcases hm with h | h
      · left; omega
      · rcases List.mem_cons.mp h with h | h
        · left; omega
        · exact .inr h
    · rcases h with h | h
      · omega
      · exact hy y (.inr (List.mem_cons_of_mem _ h))
def gMaxL : GA
  | [.lst l] => (intsOf l).bind fun bs => (maxI bs).map .int
  | _ => none
theorem ra_maxL {K : PySem.W.Frag} : RAOk C m m' (rMax K) gMaxL := by
  intro w ρ p σ H xs ds d Q ok r e q
  unfold gMaxL at e
  split at e
  · rename_i l
    cases e1 : intsOf l with
    | none => rw [e1] at e; cases e
    | some bs =>
      rw [e1] at e
      simp only [Option.bind_some] at e
      cases bs with
      | nil => cases e
      | cons b bs =>
        cases e
        cases r with
        | cons r1 r2 =>
          cases r2
          cases r1 with
          | lst n1 e2 r1 =>
            rw [repAll_ints r1 e1] at e2
            refine ⟨_, b :: bs, rfl, SqL.of e2, Nat.succ_pos _, fun mm hm hy => ?_⟩
            rw [foldl_max bs b mm (List.mem_cons.mp hm) fun y h => hy y (List.mem_cons.mpr h)]
            exact q _ H ok.kr (.int _)
  · cases e
def gMinL : GA
  | [.lst l] => (intsOf l).bind fun bs => (minI bs).map .int
  | _ => none
theorem ra_minL {K : PySem.W.Frag} : RAOk C m m' (rMin K) gMinL := by
  intro w ρ p σ H xs ds d Q ok r e q
  unfold gMinL at e
  split at e
  · rename_i l
    cases e1 : intsOf l with
    | none => rw [e1] at e; cases e
    | some bs =>
      rw [e1] at e
      simp only [Option.bind_some] at e
      cases bs with
      | nil => cases e
      | cons b bs =>
        cases e
        cases r with
        | cons r1 r2 =>
          cases r2
          cases r1 with
          | lst n1 e2 r1 =>
            rw [repAll_ints r1 e1] at e2
            refine ⟨_, b :: bs, rfl, SqL.of e2, Nat.succ_pos _, fun mm hm hy => ?_⟩
            rw [foldl_min bs b mm (List.mem_cons.mp hm) fun y h => hy y (List.mem_cons.mpr h)]
            exact q _ H ok.kr (.int _)
  · cases e
/-- list(x), tuple(x) -/
def gList : GA
  | [.lst l] => some (.lst l)
  | [.tup l] => some (.lst l)
  | _ => none
theorem ra_list {K : PySem.W.Frag} : RAOk C m m (fun xs H Q => ∃ p ys, xs = [.ref p] ∧ (SqL K H p ys ∨ SqT K H p ys) ∧ ∀ l, H l = none → Q (.ref l) (upd H l (.lst ys))) gList := by
  intro w ρ p σ H xs ds d Q ok r e q
  unfold gList at e
  split at e <;> cases e
  · cases r with
    | cons r1 r2 =>
      cases r2
      cases r1 with
      | lst n1 e1 r1 => exact ⟨_, _, rfl, .inl (SqL.of e1), fun c n => q _ _ (ok.kn n) (.lst (Md.al (ok.new n)) upd_same (r1.upd n))⟩
  · cases r with
    | cons r1 r2 =>
      cases r2
      cases r1 with
      | tup n1 e1 r1 => exact ⟨_, _, rfl, .inr (SqT.of e1), fun c n => q _ _ (ok.kn n) (.lst (Md.al (ok.new n)) upd_same (r1.upd n))⟩
def gTuple : GA
  | [.lst l] => some (.tup l)
  | [.tup l] => some (.tup l)
  | _ => none
theorem ra_tuple {K : PySem.W.Frag} : RAOk C m m (fun xs H Q => ∃ p ys, xs = [.ref p] ∧ ((SqL K H p ys ∧ ∀ l, H l = none → Q (.ref l) (upd H l (.tup ys))) ∨ (SqT K H p ys ∧ Q (.ref p) H))) gTuple := by
  intro w ρ p σ H xs ds d Q ok r e q
  unfold gTuple at e
  split at e <;> cases e
  · cases r with
    | cons r1 r2 =>
      cases r2
      cases r1 with
      | lst n1 e1 r1 => exact ⟨_, _, rfl, .inl ⟨SqL.of e1, fun c n => q _ _ (ok.kn n) (.tup (Md.al (ok.new n)) upd_same (r1.upd n))⟩⟩
  · cases r with
    | cons r1 r2 =>
      cases r2
      cases r1 with
      | tup n1 e1 r1 => exact ⟨_, _, rfl, .inr ⟨SqT.of e1, q _ H ok.kr (.tup n1 e1 r1)⟩⟩
/-- list(x) as a new list -/
def lList (f : EF) : LF := fun ρ p => (f ρ p).bind fun x => match x.1 with
  | .lst l => some (l, x.2)
  | .tup l => some (l, x.2)
  | _ => none
theorem dn_list {pp pos : Pos} {e : Expr} {f : EF} (hg : Gl X "list") (hm : X.mg "list" = none) (hv : bootBuiltins "list" = some (.type "list")) (he : DE X m e f) (hs : starEach [e] X.env = (false, eval e X.env) :: starEach [] X.env := by rfl) (hpl : (backTo pos (starEach [] X.env)).any (·.1) = false := by rfl) :
    DN X m (.Call (.Name "list" pp) [e] [] pos) (lList f) := by
  refine PE.weak (pe_callTy call_list_of hg hm hv (pa_cons he pa_nil hs) (by decide) (by decide) hs hpl) fun σ H Q ⟨w, ρ, p, ok, ds, p', e, q⟩ => ?_
  unfold lList at e
  cases e1 : f ρ p with
  | none => rw [e1] at e; cases e
  | some x =>
    obtain ⟨d, p1⟩ := x
    rw [e1] at e
    simp only [Option.bind_some] at e
    split at e <;> cases e
    · refine ⟨w, ρ, p, ok, _, _, e1, fun v H1 k1 r1 => ?_⟩
      cases r1 with
      | lst n1 ea r1 => exact ⟨_, _, rfl, .inl (SqL.of ea), fun c n => q c _ _ (k1.trans ((ok.keep k1).kn n)) (k1.none n) upd_same (r1.new n)⟩
    · refine ⟨w, ρ, p, ok, _, _, e1, fun v H1 k1 r1 => ?_⟩
      cases r1 with
      | tup n1 ea r1 => exact ⟨_, _, rfl, .inr (SqT.of ea), fun c n => q c _ _ (k1.trans ((ok.keep k1).kn n)) (k1.none n) upd_same (r1.new n)⟩
/-- a + b of lists as a new list -/
def lCat (f g : LF) : LF := fun ρ p => (f ρ p).bind fun x => (g ρ x.2).bind fun y => if x.1.length + y.1.length ≤ 65536 then some (x.1 ++ y.1, y.2) else none
theorem dn_cat {a b : Expr} {f g : LF} {sf sg : Bool} {pos : Pos} (ha : DSrc X sf m a f) (hb : DSrc X sg m b g) : DN X m (.BinOp a .Add b pos) (lCat f g) := by
  refine PE.weak (pe_op op_cat ha hb) fun σ H Q ⟨w, ρ, p, ok, ds, p', e, q⟩ => ?_
  unfold lCat at e
  cases e1 : f ρ p with
  | none => rw [e1] at e; cases e
  | some x =>
    obtain ⟨l, p1⟩ := x
    rw [e1] at e
    simp only [Option.bind_some] at e
    cases e2 : g ρ p1 with
    | none => rw [e2] at e; cases e
    | some y =>
      obtain ⟨l2, p2⟩ := y
      rw [e2] at e
      simp only [Option.bind_some] at e
      split at e <;> cases e
      rename_i hl
      refine ⟨w, ρ, p, ok, l, p1, e1, fun a xs H1 k1 ea g1 o1 r1 => ⟨w, ρ, p1, ok.keep k1, l2, p', e2, fun b ys H2 k2 eb g2 o2 r2 => ?_⟩⟩
      have ok1 := ok.keep k1
      refine ⟨a, b, xs, ys, rfl, rfl, k2.1 a _ (ok1.nopot g1) ea, eb, by rw [r1.length, r2.length]; exact small_line hl, fun c n => ?_⟩
      exact q c _ _ ((k1.trans k2).trans ((ok1.keep k2).kn n)) ((k1.trans k2).none n) upd_same (((r1.on ok1 k2).append r2).new n)
/-- a * n of a list as a new list -/
def lRep (f : LF) (g : EF) : LF := fun ρ p => (f ρ p).bind fun x => (g ρ x.2).bind fun y => match y.1 with
  | .int n => if -65536 ≤ n ∧ n ≤ 65536 ∧ x.1.length * n.toNat ≤ 65536 then some ((List.replicate n.toNat x.1).flatten, y.2) else none
  | _ => none
theorem dn_rep {a b : Expr} {f : LF} {g : EF} {sf : Bool} {pos : Pos} (ha : DSrc X sf m a f) (hb : DE X m' b g) : DN X m (.BinOp a .Mult b pos) (lRep f g) := by
  refine PE.weak (pe_op op_rep ha hb) fun σ H Q ⟨w, ρ, p, ok, ds, p', e, q⟩ => ?_
  unfold lRep at e
  cases e1 : f ρ p with
  | none => rw [e1] at e; cases e
  | some x =>
    obtain ⟨l, p1⟩ := x
    rw [e1] at e
    simp only [Option.bind_some] at e
    cases e2 : g ρ p1 with
    | none => rw [e2] at e; cases e
    | some y =>
      obtain ⟨d2, p2⟩ := y
      rw [e2] at e
      simp only [Option.bind_some] at e
      split at e
      · split at e <;> cases e
        rename_i n hl
        refine ⟨w, ρ, p, ok, l, p1, e1, fun a xs H1 k1 ea g1 o1 r1 => ⟨w, ρ, p1, ok.keep k1, _, p', e2, fun v H2 k2 r2 => ?_⟩⟩
        have ok1 := ok.keep k1
        cases r2
        refine ⟨a, n, xs, rfl, rfl, k2.1 a _ (ok1.nopot g1) ea, by omega, by omega, by rw [r1.length]; exact small_line hl.2.2, fun c nn => ?_⟩
        exact q c _ _ ((k1.trans k2).trans ((ok1.keep k2).kn nn)) ((k1.trans k2).none nn) upd_same (((r1.on ok1 k2).rep _).new nn)
      · cases e
/-- l[lo:hi] as a new list -/
def lSl (f : LF) (lo hi : PFo) : LF := fun ρ p => (f ρ p).bind fun x => (lo ρ x.2).bind fun y => (hi ρ y.2).map fun z => (cutD x.1 y.1 z.1, z.2)
theorem dn_slice {e : Expr} {lo hi : Option Expr} {f : LF} {fl fh : PFo} {sf : Bool} {p2 pos : Pos} (he : DSrc X sf m e f) (hl : DO X lo fl) (hh : DO X hi fh) : DN X m (.Subscript e (.Slice lo hi none p2) pos) (lSl f fl fh) := by
  refine PE.weak (pe_slice sl_list he hl hh) fun σ H Q ⟨w, ρ, p, ok, d, p', e, q⟩ => ?_
  unfold lSl at e
  cases e1 : f ρ p with
  | none => rw [e1] at e; cases e
  | some x =>
    obtain ⟨l, p1⟩ := x
    rw [e1] at e
    simp only [Option.bind_some] at e
    cases e2 : fl ρ p1 with
    | none => rw [e2] at e; cases e
    | some y =>
      obtain ⟨ol, p2⟩ := y
      rw [e2] at e
      simp only [Option.bind_some] at e
      cases e3 : fh ρ p2 with
      | none => rw [e3] at e; cases e
      | some z =>
        obtain ⟨oh, p3⟩ := z
        rw [e3] at e
        cases e
        refine ⟨w, ρ, p, ok, l, p1, e1, fun a xs H1 k1 ea g1 o1 r1 => ⟨w, ρ, p1, ok.keep k1, ol, p2, e2, fun H2 k2 => ⟨w, ρ, p2, (ok.keep k1).keep k2, oh, p3, e3, fun H3 k3 => ?_⟩⟩⟩
        have ok1 := ok.keep k1
        have ok2 := ok1.keep k2
        have ok3 := ok2.keep k3
        refine ⟨a, xs, rfl, SqL.of (k3.1 a _ (ok1.nopot g1) (k2.1 a _ (ok1.nopot g1) ea)), fun c n => ?_⟩
        exact q c _ _ (((k1.trans k2).trans k3).trans (ok3.kn n)) (((k1.trans k2).trans k3).none n) upd_same ((((r1.on ok1 k2).on ok2 k3).cut ol oh).new n)
end DL
namespace DL
open PySem PySem.Spec PyProof.Rows L2
variable {k : Kx} {N N' : Addr → Prop} {H H' H1 H2 : Hp} {w : Wd} {ρ ρ' : DEnv} {σ σ' : L2.St} {p p' p1 p2 : Pot} {X : Cx} {C : Addr} {m m' : Mo}

/-! ### a < b < c -/
theorem chain_go {r r' : R2} {g g' : G2} {fa fb fc : EF} {m1 : Mo} (hr : R2Ok C m m1 r g) (hr' : R2Ok C m m' r' g') {σ : L2.St} {H : Hp} {Q : VK} (h : tD C m' (dChain g g' fa fb fc) σ H Q) :
    tChain r r' (tD C m fa) (tD C m fb) (tD C m fc) σ H Q := by
  obtain ⟨w, ρ, p, ok, d, p', e, q⟩ := h
  unfold dChain at e
  cases e1 : fa ρ p with
  | none => rw [e1] at e; cases e
  | some x =>
    obtain ⟨a, p1⟩ := x
    rw [e1] at e
    simp only [Option.bind_some] at e
    cases e2 : fb ρ p1 with
    | none => rw [e2] at e; cases e
    | some y =>
      obtain ⟨b, p2⟩ := y
      rw [e2] at e
      simp only [Option.bind_some] at e
      cases e3 : g a b with
      | none => rw [e3] at e; cases e
      | some z =>
        rw [e3] at e
        simp only [Option.bind_some] at e
        refine ⟨w, ρ, p, ok, a, p1, e1, fun v H1 k1 r1 => ⟨w, ρ, p1, ok.keep k1, b, p2, e2, fun u H2 k2 r2 => ?_⟩⟩
        have o1 := ok.keep k1
        have o2 := o1.keep k2
        refine hr w ρ p2 σ H2 v u a b z _ o2 (r1.on o1 k2) r2 e3 fun zv H3 k3 r3 => ?_
        have o3 := o2.keep k3
        have k13 := (k1.trans k2).trans k3
        split at e
        · cases r3
          refine ⟨true, rfl, ?_⟩
          rw [if_pos rfl]
          cases e4 : fc ρ p2 with
          | none => rw [e4] at e; cases e
          | some c =>
            obtain ⟨dc, p4⟩ := c
            rw [e4] at e
            simp only [Option.bind_some] at e
            cases e5 : g' b dc with
            | none => rw [e5] at e; cases e
            | some d' =>
              rw [e5] at e
              cases e
              refine ⟨w, ρ, p2, o3, dc, p', e4, fun x4 H4 k4 r4 => ?_⟩
              exact hr' w ρ p' σ H4 u x4 b dc d Q (o3.keep k4) ((r2.on o2 k3).on o3 k4) r4 e5 fun x5 H5 k5 r5 => q x5 H5 ((k13.trans k4).trans k5) r5
        · cases e
          cases r3
          refine ⟨false, rfl, ?_⟩
          rw [if_neg Bool.false_ne_true]
          exact q _ H3 k13 (.bl false)
        · cases e
theorem de_chain {a b c : Expr} {op op' : CmpOp} {r r' : R2} {g g' : G2} {fa fb fc : EF} {m1 : Mo} {pos : Pos} (ho : OpR X (compareOp op) r) (ho' : OpR X (compareOp op') r') (hr : R2Ok (clsOf X) m m1 r g) (hr' : R2Ok (clsOf X) m m' r' g') (ha : DE X m a fa) (hb : DE X m b fb) (hc : DE X m c fc)
    (hm : lastMarks [op, op'] [b, c] = false := by with_unfolding_all rfl) : DE X m' (.Compare a [op, op'] [b, c] pos) (dChain g g' fa fb fc) :=
  PE.weak (pe_chain ho ho' ha hb hc hm) fun _ _ _ h => chain_go hr hr' h
theorem dt_chain {a b c : Expr} {op op' : CmpOp} {r r' : R2} {g g' : G2} {fa fb fc : EF} {m1 : Mo} {pos : Pos} (ho : OpR X (compareOp op) r) (ho' : OpR X (compareOp op') r') (hr : R2Ok (clsOf X) m m1 r g) (hr' : R2Ok (clsOf X) m m' r' g') (ha : DE X m a fa) (hb : DE X m b fb) (hc : DE X m c fc)
    (hm : lastMarks [op, op'] [b, c] = false := by with_unfolding_all rfl) : DT X (.Compare a [op, op'] [b, c] pos) (bOf (dChain g g' fa fb fc)) :=
  PT.weak (pt_chain ho ho' ha hb hc hm) fun _ _ _ h => chain_go (m' := m') hr hr' (bOf_go h)
/-! ### an item of a list that is read -/
def dIxL (h : LF) (g : EF) : EF := fun ρ p => (h ρ p).bind fun x => (g ρ x.2).bind fun y => match y.1 with
  | .int i => (atI x.1 i).map fun d => (d, y.2)
  | _ => none
theorem de_ixL {a b : Expr} {h : LF} {g : EF} {sf : Bool} {pos : Pos} (ha : DSrc X sf m a h) (hb : DE X m' b g) (hs : PlainIx b) : DE X m (.Subscript a b pos) (dIxL h g) := by
  refine PE.weak (pe_ix ix_list ha hb hs) fun σ H Q ⟨w, ρ, p, ok, d, p', e, q⟩ => ?_
  unfold dIxL at e
  cases e1 : h ρ p with
  | none => rw [e1] at e; cases e
  | some x =>
    obtain ⟨l, p1⟩ := x
    rw [e1] at e
    simp only [Option.bind_some] at e
    cases e2 : g ρ p1 with
    | none => rw [e2] at e; cases e
    | some y =>
      obtain ⟨di, p2⟩ := y
      rw [e2] at e
      simp only [Option.bind_some] at e
      split at e
      · rename_i i
        cases e3 : L2.atI l i with
        | none => rw [e3] at e; cases e
        | some d' =>
          rw [e3] at e
          cases e
          refine ⟨w, ρ, p, ok, l, p1, e1, fun a xs H1 k1 ea g1 o1 r1 => ⟨w, ρ, p1, ok.keep k1, _, p', e2, fun v H2 k2 r2 => ?_⟩⟩
          have ok1 := ok.keep k1
          cases r2
          obtain ⟨v, ev, rv⟩ := (r1.on ok1 k2).atI e3
          exact ⟨a, xs, i, v, rfl, rfl, SqL.of (k2.1 a _ (ok1.nopot g1) ea), ev, q v H2 (k1.trans k2) rv⟩
      · cases e
/-- len of a list that is read -/
def dLenL (h : LF) : EF := fun ρ p => (h ρ p).map fun x => (.int x.1.length, x.2)
theorem de_lenL {a : Expr} {h : LF} {sf : Bool} {pp pos : Pos} (hg : Gl X "len") (hm : X.mg "len" = none) (ha : DSrc X sf m a h) (hs : starEach [a] X.env = (false, eval a X.env) :: starEach [] X.env := by rfl) (hpl : (backTo pos (starEach [] X.env)).any (·.1) = false := by rfl) :
    DE X m' (.Call (.Name "len" pp) [a] [] pos) (dLenL h) := by
  refine PE.weak (pe_callB call_len_seq hg hm PySem.boot_len (pa_cons ha pa_nil hs) (by decide) (by decide) hs hpl) fun σ H Q ⟨w, ρ, p, ok, d, p', e, q⟩ => ?_
  unfold dLenL at e
  cases e1 : h ρ p with
  | none => rw [e1] at e; cases e
  | some x =>
    obtain ⟨l, p1⟩ := x
    rw [e1] at e
    cases e
    exact ⟨w, ρ, p, ok, l, p1, e1, fun a xs H1 k1 ea g1 o1 r1 => ⟨a, xs, rfl, .inl (SqL.of ea), by rw [r1.length]; exact q _ H1 k1 (.int _)⟩⟩
/-! ### x in l -/
def gIn : G2 := fun a b => match b with
  | .lst l => (toPy a).bind fun x => (toPyAll l).bind fun xs => if SeqAt.shaped x = true ∧ SeqAt.shaped (.list xs) = true then some (.bl (xs.any fun z => PyData.eqv z x)) else none
  | _ => none
def gNotIn : G2 := fun a b => match gIn a b with
  | some (.bl c) => some (.bl (!c))
  | _ => none
theorem gIn_some {a : D} {l : List D} {d : D} (e : gIn a (.lst l) = some d) : ∃ x xs, toPy a = some x ∧ toPyAll l = some xs ∧ SeqAt.shaped x = true ∧ SeqAt.shaped (.list xs) = true ∧ d = .bl (xs.any fun z => PyData.eqv z x) := by
  unfold gIn at e
  simp only [] at e
  cases e1 : toPy a with
  | none => rw [e1] at e; cases e
  | some x =>
    rw [e1] at e
    simp only [Option.bind_some] at e
    cases e2 : toPyAll l with
    | none => rw [e2] at e; cases e
    | some xs =>
      rw [e2] at e
      simp only [Option.bind_some] at e
      split at e <;> cases e
      rename_i hs
      exact ⟨x, xs, rfl, rfl, hs.1, hs.2, rfl⟩
theorem r2_in {K : PySem.W.Frag} : R2Ok C m m' (rInD K) gIn := by
  intro w ρ p σ H x y a b d Q ok ra rb e q
  cases b <;> first | (unfold gIn at e; cases e; done) | skip
  obtain ⟨x', xs, h1, h2, h3, h4, rfl⟩ := gIn_some e
  refine ⟨x', xs, rep_dp _ ra h1, ?_, h3, h4, q _ H ok.kr (.bl _)⟩
  exact rep_dp _ rb (by unfold toPy; rw [h2]; rfl)
theorem r2_notIn {K : PySem.W.Frag} : R2Ok C m m' (rNotInD K) gNotIn := by
  intro w ρ p σ H x y a b d Q ok ra rb e q
  unfold gNotIn at e
  split at e <;> cases e
  rename_i c hc
  cases b <;> first | (unfold gIn at hc; cases hc; done) | skip
  obtain ⟨x', xs, h1, h2, h3, h4, hb⟩ := gIn_some hc
  cases hb
  refine ⟨x', xs, rep_dp _ ra h1, ?_, h3, h4, q _ H ok.kr (.bl _)⟩
  exact rep_dp _ rb (by unfold toPy; rw [h2]; rfl)

/-! ### isinstance -/
/-- what the class Ratio is -/
structure RatK (K : PySem.W.Frag) (C : Addr) : Prop where
  cl : Cls K C
  ca : PySem.W.findIn K (.ref C) "__class__" = some (some (.builtin "object.__class__"))
  cg : PySem.W.specialIn K (.builtin "object.__class__") "__get__" = some (some (.builtin "getset_descriptor.__get__"))
  ct : PySem.W.takesIn K (.builtin "object.__class__") = some true
  cm : PySem.W.mroIn K C (.type "object") = some true
  k1 : PySem.W.kitOne K (.ref C) (.type "int") = some false
  k2 : PySem.W.kitOne K (.ref C) (.type "bool") = some false
  k3 : PySem.W.kitOne K (.ref C) (.type "list") = some false
  k4 : PySem.W.kitOne K (.ref C) (.type "tuple") = some false
  k5 : PySem.W.kitOne K (.ref C) (.type "str") = some false
  kr : PySem.W.kitOne K (.ref C) (.ref C) = some true
  n1 : PySem.W.kitOne K (.type "NoneType") (.ref C) = some false
  n2 : PySem.W.kitOne K (.type "bool") (.ref C) = some false
  n3 : PySem.W.kitOne K (.type "int") (.ref C) = some false
  n4 : PySem.W.kitOne K (.type "str") (.ref C) = some false
  n5 : PySem.W.kitOne K (.type "list") (.ref C) = some false
  n6 : PySem.W.kitOne K (.type "tuple") (.ref C) = some false
  n7 : PySem.W.kitOne K (.type "dict") (.ref C) = some false
/-- a datum's type -/
def tyOf (C : Addr) : D → Value
  | .non => .type "NoneType"
  | .bl _ => .type "bool"
  | .int _ => .type "int"
  | .str _ => .type "str"
  | .lst _ => .type "list"
  | .tup _ => .type "tuple"
  | .rat _ _ => .ref C
  | .edict => .type "dict"
  | .pot => .type "list"
  | .ty _ => .type "type"
  | .obj _ => .none
theorem rep_ty {K : PySem.W.Frag} {v : V} {d : D} (R : RatK K k.C) (hp : ∃ q, H k.pa = some (potO q)) (r : Rep k N H v d) (hn : ∀ n, d ≠ .ty n) (ho : ∀ a, d ≠ .obj a) : TyX K H v (tyOf k.C d) := by
  cases r with
  | non => exact .base .non
  | bl b => exact .base (.bl b)
  | int i => exact .base (.int i)
  | str s => exact .base (.str s)
  | ty n => exact absurd rfl (hn n)
  | obj a => exact absurd rfl (ho a)
  | lst n e r => exact .base (.lst e)
  | tup n e r => exact .base (.tup e)
  | rat n e => exact .base (.ins e R.cl R.ca R.cg R.ct R.cm)
  | edict n e => exact .base (.dK e)
  | pot =>
    obtain ⟨q, e⟩ := hp
    exact .base (.lst e)
/-- isinstance(x, T): T one of int, bool, list, tuple, str -/
inductive TyN where
  | int | bool | list | tuple | str
def TyN.s : TyN → String
  | .int => "int" | .bool => "bool" | .list => "list" | .tuple => "tuple" | .str => "str"
def isT (t : TyN) : D → Option Bool
  | .non => some false
  | .bl _ => some (match t with | .int => true | .bool => true | _ => false)
  | .int _ => some (match t with | .int => true | _ => false)
  | .str _ => some (match t with | .str => true | _ => false)
  | .lst _ => some (match t with | .list => true | _ => false)
  | .tup _ => some (match t with | .tuple => true | _ => false)
  | .rat _ _ => some false
  | .edict => some false
  | _ => none
theorem kit_isT {K : PySem.W.Frag} (R : RatK K C) (t : TyN) (d : D) (b : Bool) (h : isT t d = some b) : PySem.W.kitOne K (tyOf C d) (.type t.s) = some b ∧ (∀ n, d ≠ .ty n) ∧ ∀ a, d ≠ .obj a := by
  refine ⟨?_, fun n e => (by subst e; cases h), fun n e => (by subst e; cases h)⟩
  cases d <;> cases t <;> first
    | (cases h; done)
    | (cases h; exact kit_ty (by decide +kernel))
    | (cases h; exact R.k1)
    | (cases h; exact R.k2)
    | (cases h; exact R.k3)
    | (cases h; exact R.k4)
    | (cases h; exact R.k5)
def gIsT (t : TyN) : GA
  | [d, .ty n] => if n = t.s then (isT t d).map .bl else none
  | _ => none
theorem ra_isT {K : PySem.W.Frag} (R : RatK K C) (t : TyN) : RAOk C m m' (rIsi K) (gIsT t) := by
  intro w ρ p σ H xs ds d Q ok r e q
  unfold gIsT at e
  split at e
  · split at e
    · rename_i hn
      rename_i d' n
      subst hn
      cases e1 : isT t d' with
      | none => rw [e1] at e; cases e
      | some b =>
        rw [e1] at e
        cases e
        cases r with
        | cons r1 r2 =>
          cases r2 with
          | cons r2 r3 =>
            cases r2
            cases r3
            obtain ⟨h1, h2⟩ := kit_isT R t d' b e1
            have ty := rep_ty (K := K) (k := w.k) (by rw [ok.cls]; exact R) ⟨_, ok.pot⟩ r1 h2.1 h2.2
            rw [ok.cls] at ty
            exact ⟨_, _, _, _, b, rfl, .ty _, ty, h1, q _ H ok.kr (.bl b)⟩
    · cases e
  · cases e
/-- isinstance(x, (T1, T2)) -/
def gIsTT (t1 t2 : TyN) : GA
  | [d, .tup [.ty n1, .ty n2]] => if n1 = t1.s ∧ n2 = t2.s then (isT t1 d).bind fun b1 => (isT t2 d).map fun b2 => .bl (b1 || b2) else none
  | _ => none
theorem ra_isTT {K : PySem.W.Frag} (R : RatK K C) (t1 t2 : TyN) : RAOk C m m' (rIsiT K) (gIsTT t1 t2) := by
  intro w ρ p σ H xs ds d Q ok r e q
  unfold gIsTT at e
  split at e
  · split at e
    · rename_i hn
      rename_i d' n1 n2
      obtain ⟨rfl, rfl⟩ := hn
      cases e1 : isT t1 d' with
      | none => rw [e1] at e; cases e
      | some b1 =>
        rw [e1] at e
        simp only [Option.bind_some] at e
        cases e2 : isT t2 d' with
        | none => rw [e2] at e; cases e
        | some b2 =>
          rw [e2] at e
          cases e
          cases r with
          | cons r1 r2 =>
            cases r2 with
            | cons r2 r3 =>
              cases r3
              cases r2 with
              | tup nt et rt =>
                cases rt with
                | cons q1 q2 =>
                  cases q1
                  cases q2 with
                  | cons q1 q2 =>
                    cases q1
                    cases q2
                    obtain ⟨h1, h2⟩ := kit_isT R t1 d' b1 e1
                    obtain ⟨h3, _⟩ := kit_isT R t2 d' b2 e2
                    have ty := rep_ty (K := K) (k := w.k) (by rw [ok.cls]; exact R) ⟨_, ok.pot⟩ r1 h2.1 h2.2
                    rw [ok.cls] at ty
                    refine ⟨_, _, _, _, _, b1 || b2, rfl, et, .cons (.ty _) (.cons (.ty _) .nil), ty, ?_, q _ H ok.kr (.bl _)⟩
                    refine kitAny_cons h1 (fun z => ?_) (fun z => by rw [z]; rfl)
                    subst z
                    refine kitAny_cons h3 (fun z => ?_) (fun z => by rw [z]; rfl)
                    subst z
                    exact kitAny_nil
    · cases e
  · cases e
theorem de_ty {n : String} {pos : Pos} {x : Str} (hg : Gl X x) (hm : X.mg x = none) (hv : bootBuiltins x = some (.type n)) (hn : x ≠ "__name__" := by decide) (hd : (x == ("__debug__" : Str)) = false := by decide) : DE X m (.Name x pos) (dK (.ty n)) :=
  de_K (pe_bltn (v := .ty n) hg hm hv rfl hn hd) fun _ _ _ => .ty n
/-- isinstance(x, Ratio) -/
def isRat : D → Option Bool
  | .rat _ _ => some true
  | .non | .bl _ | .int _ | .str _ | .lst _ | .tup _ | .edict => some false
  | _ => none
def dIsRat (f : EF) : EF := fun ρ p => (f ρ p).bind fun x => (isRat x.1).map fun b => (.bl b, x.2)
theorem de_isRat {e : Expr} {f : EF} {p1 p2 pos : Pos} (R : RatK X.K (clsOf X)) (hg : Gl X "isinstance") (hm : X.mg "isinstance" = none) (hgR : Gl X "Ratio") (hmR : X.mg "Ratio" = some (.ref (clsOf X))) (he : DE X m e f)
    (hs : starEach [e, .Name "Ratio" p2] X.env = (false, eval e X.env) :: starEach [.Name "Ratio" p2] X.env := by rfl) (hpl : (backTo pos (starEach [.Name "Ratio" p2] X.env)).any (·.1) = false := by rfl) :
    DE X m' (.Call (.Name "isinstance" p1) [e, .Name "Ratio" p2] [] pos) (dIsRat f) := by
  refine PE.weak (pe_callB call_isi hg hm (by decide +kernel) (pa_cons he (pa_cons (pe_glob (v := .ref (clsOf X)) hgR hmR rfl) pa_nil) hs) (by decide) (by decide) hs hpl) fun σ H Q ⟨w, ρ, p, ok, d, p', e, q⟩ => ?_
  unfold dIsRat at e
  cases e1 : f ρ p with
  | none => rw [e1] at e; cases e
  | some x =>
    obtain ⟨d', p1⟩ := x
    rw [e1] at e
    simp only [Option.bind_some] at e
    cases e2 : isRat d' with
    | none => rw [e2] at e; cases e
    | some b =>
      rw [e2] at e
      cases e
      refine ⟨w, ρ, p, ok, d', p', e1, fun v H1 k1 r1 => ?_⟩
      have o1 := ok.keep k1
      have hn : ∀ n, d' ≠ .ty n := fun n z => by subst z; cases e2
      have ho : ∀ a, d' ≠ .obj a := fun n z => by subst z; cases e2
      have ty := rep_ty (K := X.K) (k := w.k) (by rw [o1.cls]; exact R) ⟨_, o1.pot⟩ r1 hn ho
      rw [o1.cls] at ty
      refine ⟨_, _, _, _, b, rfl, .own _, ty, ?_, q _ H1 k1 (.bl b)⟩
      cases d' <;> first
        | (cases e2; done)
        | (cases e2; exact R.kr)
        | (cases e2; exact R.n1)
        | (cases e2; exact R.n2)
        | (cases e2; exact R.n3)
        | (cases e2; exact R.n4)
        | (cases e2; exact R.n5)
        | (cases e2; exact R.n6)
        | (cases e2; exact R.n7)

/-! ### defs by name -/
/-- a def of the module that keeps its promise -/
structure Dfn (P : Program) (w : World) (K : PySem.W.Frag) (mg : Str → Option Value) (base : Heap) (x : Str) (kk : Nat) (ps : List Str) (fr : Bool) (fn : PF) : Prop where
  ex : ∃ f fd, FnOk P w K mg base CX0 kk f fd ps (spD (clsM mg) fr fn) ∧ mg x = some (.ref f) ∧ PySem.W.keepIn K (.ref f) = true ∧ L2.Binds K fd ps []
section
variable {x : Str} {kk : Nat} {ps : List Str} {fr : Bool} {fn : PF} {e : Expr} {es : List Expr} {g : AF} {pp pos : Pos}
theorem de_f (G : Dfn X.prog X.w X.K X.mg X.base x kk ps false fn) (hr : Room kk X.A) (hg : Gl X x) (ha : DA X m (e :: es) g) (hdb : (x == ("__debug__" : Str)) = false := by decide) (he : starEach (e :: es) X.env = (false, eval e X.env) :: starEach es X.env := by rfl) (hpl : (backTo pos (starEach es X.env)).any (·.1) = false := by rfl) :
    DE X m (.Call (.Name x pp) (e :: es) [] pos) (dCall fn g) := by
  obtain ⟨f, fd, F, hm, hk, hb⟩ := G.ex
  exact de_call F hr hg hm hk hb ha hdb he hpl
theorem de_fF (G : Dfn X.prog X.w X.K X.mg X.base x kk ps true fn) (hr : Room kk X.A) (hg : Gl X x) (ha : DA X m (e :: es) g) (hdb : (x == ("__debug__" : Str)) = false := by decide) (he : starEach (e :: es) X.env = (false, eval e X.env) :: starEach es X.env := by rfl) (hpl : (backTo pos (starEach es X.env)).any (·.1) = false := by rfl) :
    DE X .al (.Call (.Name x pp) (e :: es) [] pos) (dCall fn g) := by
  obtain ⟨f, fd, F, hm, hk, hb⟩ := G.ex
  exact de_callF F hr hg hm hk hb ha hdb he hpl
end
/-- what the head tells of a def -/
def Stands (K : PySem.W.Frag) (mg : Str → Option Value) (x : Str) (st : Stmt) : Prop := ∃ f fd, L2.Fun K x x st f fd ∧ mg x = some (.ref f)
theorem dfn {P : Program} {w : World} {K : PySem.W.Frag} {mg : Str → Option Value} {base : Heap} {x : Str} {st : Stmt} {N ps : List Str} {kk : Nat} {fr : Bool} {g : SF} (F : Stands K mg x st) (S : FnScope N ps (defScope st)) (hps : ps.length ≤ N.length)
    (hb : ∀ (kV doc pm : Value) (an : Option Addr) (cdv ct : Value) (us : List Value), us.length = ps.length → bindArgs (PySem.W.fnOf x x (defArgs st) (defBody st) (defScope st) .none kV doc pm an cdv ct) ⟨us, []⟩ = pure (ps.zip us))
    (hbody : ∀ (f : Addr) (cdv : Value) (A : Around) (outer : List PySem.Env) (s : Shared) (H : Hp) (E : XK), Room kk (A.deeper (envOfC x (defScope st) s.heap.objs.size f cdv)) →
      DSs (cxOf CX0 P w K mg base N x (defScope st) f cdv A outer s H E).nox (defBody st) g) : Dfn P w K mg base x (kk + 1) ps fr (defD ps.length N fr g) := by
  obtain ⟨f, fd, F, hm⟩ := F
  exact ⟨f, fd, dok F S hps (hbody f), hm, F.kp, F.binds hb⟩
end DL
namespace DL
open PySem PySem.Spec PyProof.Rows L2
variable {k : Kx} {N N' : Addr → Prop} {H H' H1 H2 : Hp} {w : Wd} {ρ ρ' : DEnv} {σ σ' : L2.St} {p p' p1 p2 : Pot} {X : Cx} {C : Addr} {m m' : Mo}
theorem u65 {A : Around} {k : Nat} (hr : Room k A) : A.units + 65 < cLine := by
  have := hr.un
  omega
def dNeg (f : EF) : EF := fun ρ p => (f ρ p).bind fun x => match x.1 with
  | .int i => some (.int (-i), x.2)
  | _ => none
theorem de_neg {a : Expr} {f : EF} {pos : Pos} (ha : DE X m a f) : DE X m' (.UnaryOp .USub a pos) (dNeg f) := by
  refine PE.weak (pe_un un_neg ha) fun σ H Q ⟨w, ρ, p, ok, d, p', e, q⟩ => ?_
  unfold dNeg at e
  cases e1 : f ρ p with
  | none => rw [e1] at e; cases e
  | some x =>
    obtain ⟨d', p1⟩ := x
    rw [e1] at e
    simp only [Option.bind_some] at e
    cases d' <;> first | cases e | skip
    refine ⟨w, ρ, p, ok, _, _, e1, fun v H1 k1 r1 => ?_⟩
    cases r1
    exact ⟨_, rfl, q _ H1 k1 (.int _)⟩
end DL
namespace DL
open PySem PySem.Spec PyProof.Rows L2
variable {k : Kx} {N N' : Addr → Prop} {H H' H1 H2 : Hp} {w : Wd} {ρ ρ' : DEnv} {σ σ' : L2.St} {p p' p1 p2 : Pot} {X : Cx} {C : Addr} {m m' : Mo}

/-! ### a Ratio's own attributes -/
inductive RF where
  | own_top | own_bottom
def RF.s : RF → Str
  | .own_top => "own_top" | .own_bottom => "own_bottom"
def RF.get : RF → D → Option D
  | .own_top, .rat t _ => some (.int t)
  | .own_bottom, .rat _ b => some (.int b)
  | _, _ => none
/-- what the class Ratio is, further -/
structure RatF (K : PySem.W.Frag) (C : Addr) : Prop extends RatK K C where
  nT : NoAttr K C "own_top"
  nB : NoAttr K C "own_bottom"
def dFld (r : RF) (f : EF) : EF := fun ρ p => (f ρ p).bind fun x => (r.get x.1).map fun d => (d, x.2)
theorem de_fld {e : Expr} {f : EF} {pos : Pos} (r : RF) (R : RatF X.K (clsOf X)) (he : DE X m e f) (hb : attributeBase e r.s X.env (eval e X.env) = eval e X.env := by rfl) : DE X m' (.Attribute e r.s pos) (dFld r f) := by
  refine PE.weak (pe_fld he hb) fun σ H Q ⟨w, ρ, p, ok, d, p', e, q⟩ => ?_
  unfold dFld at e
  cases e1 : f ρ p with
  | none => rw [e1] at e; cases e
  | some x =>
    obtain ⟨d', p1⟩ := x
    rw [e1] at e
    simp only [Option.bind_some] at e
    cases d' <;> first | (cases r <;> cases e; done) | skip
    refine ⟨w, ρ, p, ok, _, p1, e1, fun v H1 k1 r1 => ?_⟩
    cases r1 with
    | rat n1 e2 =>
      rw [ok.cls] at e2
      cases r with
      | own_top =>
        cases e
        exact ⟨_, _, _, _, _, rfl, e2, R.cl, R.nT, by first | rfl | decide, q _ H1 k1 (.int _)⟩
      | own_bottom =>
        cases e
        exact ⟨_, _, _, _, _, rfl, e2, R.cl, R.nB, by first | rfl | decide, q _ H1 k1 (.int _)⟩
/-! ### its properties -/
structure Prp (P : Program) (w : World) (K : PySem.W.Frag) (mg : Str → Option Value) (base : Heap) (x : Str) (kk : Nat) (fn : PF) : Prop where
  ex : ∃ p g fd, PropOf K (clsM mg) x p g ∧ FnOk P w K mg base CX0 kk g fd ["self"] (spD (clsM mg) false fn) ∧ L2.Binds K fd ["self"] []
def isR : D → Bool
  | .rat _ _ => true
  | _ => false
def dProp (fn : PF) (f : EF) : EF := fun ρ p => (f ρ p).bind fun x => if isR x.1 = true then fn [x.1] x.2 else none
theorem de_prop {x : Str} {kk : Nat} {fn : PF} {e : Expr} {f : EF} {pos : Pos} (G : Prp X.prog X.w X.K X.mg X.base x kk fn) (R : RatF X.K (clsOf X)) (hr : Room (kk + 1) X.A) (he : DE X m e f) (hab : attributeBase e x X.env (eval e X.env) = eval e X.env := by rfl) : DE X m (.Attribute e x pos) (dProp fn f) := by
  obtain ⟨pp, g, fd, hp, F, hb⟩ := G.ex
  refine PE.weak (pe_prop he R.cl hp F hr hb .nil pass0 hab) fun σ H Q ⟨w, ρ, p, ok, d, p', e, q⟩ => ?_
  unfold dProp at e
  cases e1 : f ρ p with
  | none => rw [e1] at e; cases e
  | some x =>
    obtain ⟨d', p1⟩ := x
    rw [e1] at e
    simp only [Option.bind_some] at e
    split at e
    · rename_i hR
      cases d' <;> first | cases hR | skip
      refine ⟨w, ρ, p, ok, _, p1, e1, fun v H1 k1 r1 => ?_⟩
      have o1 := ok.keep k1
      cases r1 with
      | rat n1 e2 =>
        have e3 := e2
        rw [ok.cls] at e3
        have ek : (⟨clsOf X, w.k.pa⟩ : Kx) = w.k := by rw [← ok.cls]
        refine ⟨_, _, _, rfl, e3, w.k.pa, Md m w ρ σ, p1, [_], d, p', o1.pot, fun n => n.nog ok.pgh, ?_, e, fun v H2 k2 r2 => ?_⟩
        · rw [ek]; exact .cons (.rat n1 e2) .nil
        · rw [ek] at k2 r2
          refine q v H2 (k1.trans k2) (r2.weak fun a n => ?_)
          rcases n with ⟨_, n⟩ | n | ⟨dx, fs, n⟩
          · exact n
          · exact Md.al (o1.new n)
          · exact Md.al (o1.ins n)
    · cases e
/-! ### its methods -/
structure Mth (P : Program) (w : World) (K : PySem.W.Frag) (mg : Str → Option Value) (base : Heap) (x : Str) (kk : Nat) (ps : List Str) (fn : PF) : Prop where
  ex : ∃ g fd, Meth K (clsM mg) x g ∧ FnOk P w K mg base CX0 kk g fd ps (spD (clsM mg) false fn) ∧ L2.Binds K fd ps []
def dMeth (fn : PF) (f : EF) (g : AF) : EF := fun ρ p => (f ρ p).bind fun x => if isR x.1 = true then (g ρ x.2).bind fun y => fn (x.1 :: y.1) y.2 else none
theorem meth_nolook {t b : Int} {x : Str} (h1 : x ≠ "own_top") (h2 : x ≠ "own_bottom") : ([("own_top", V.int t), ("own_bottom", V.int b)] : List (Str × V)).lookup x = none := by
  rw [List.lookup_cons, List.lookup_cons]
  have e1 : (x == ("own_top" : Str)) = false := beq_eq_false_iff_ne.mpr h1
  have e2 : (x == ("own_bottom" : Str)) = false := beq_eq_false_iff_ne.mpr h2
  rw [e1, e2]
  rfl
theorem de_meth {x : Str} {kk : Nat} {ps : List Str} {fn : PF} {o e : Expr} {es : List Expr} {f : EF} {g : AF} {apos pos : Pos} (G : Mth X.prog X.w X.K X.mg X.base x kk ps fn) (R : RatF X.K (clsOf X)) (hr : Room kk X.A) (ho : DE X m o f) (ha : DA X m (e :: es) g)
    (h1 : x ≠ "own_top") (h2 : x ≠ "own_bottom") (pe : ∀ {CX : CXT} {k : Nat} {f C : Addr} {fd : FuncData} {ps : List Str} {sp : Sp} {dvs : List V} {ds : List Value} {E : XK} {ta : TE} {t : TA} (he : PE X o ta) (c : Cls X.K C) (hm : Meth X.K C x f) (F : FnOk X.prog X.w X.K X.mg X.base CX k f fd ps sp) (hr : Room k X.A) (hb : L2.Binds X.K fd ps ds) (hd : Vals dvs ds) (hx : Passes CX X E) (ha : PA X (e :: es) t),
      PE X (.Call (.Attribute o x apos) (e :: es) [] pos) (tMeth C x sp dvs E ta t)) :
    DE X m (.Call (.Attribute o x apos) (e :: es) [] pos) (dMeth fn f g) := by
  obtain ⟨gg, fd, hm, F, hb⟩ := G.ex
  refine PE.weak (pe ho R.cl hm F hr hb .nil pass0 ha) fun σ H Q ⟨w, ρ, p, ok, d, p', e, q⟩ => ?_
  unfold dMeth at e
  cases e1 : f ρ p with
  | none => rw [e1] at e; cases e
  | some x =>
    obtain ⟨d', p1⟩ := x
    rw [e1] at e
    simp only [Option.bind_some] at e
    split at e
    · rename_i hR
      cases d' <;> first | cases hR | skip
      cases e2 : g ρ p1 with
      | none => rw [e2] at e; cases e
      | some y =>
        obtain ⟨ds, p2⟩ := y
        rw [e2] at e
        simp only [Option.bind_some] at e
        refine ⟨w, ρ, p, ok, _, p1, e1, fun v H1 k1 r1 => ?_⟩
        have o1 := ok.keep k1
        have r1' := r1
        cases r1 with
        | rat n1 e2' =>
          rw [ok.cls] at e2'
          have ek : (⟨clsOf X, w.k.pa⟩ : Kx) = w.k := by rw [← ok.cls]
          refine ⟨_, _, _, rfl, e2', meth_nolook h1 h2, w, ρ, p1, o1, ds, p2, e2, fun vs H2 k2 r2 => ?_⟩
          have o2 := o1.keep k2
          refine ⟨w.k.pa, Md m w ρ σ, p2, _, d, p', o2.pot, fun n => n.nog ok.pgh, ?_, e, fun v H3 k3 r3 => ?_⟩
          · rw [ek, List.append_nil]
            exact .cons (r1'.on o1 k2) r2
          · rw [ek] at k3 r3
            refine q v H3 ((k1.trans k2).trans k3) (r3.weak fun a n => ?_)
            rcases n with ⟨_, n⟩ | n | ⟨dx, fs, n⟩
            · exact n
            · exact Md.al (o2.new n)
            · exact Md.al (o2.ins n)
    · cases e
/-! ### its operators -/
/-- a op b by the class's own method; b a Ratio, or an int -/
structure Bop (P : Program) (w : World) (K : PySem.W.Frag) (mg : Str → Option Value) (base : Heap) (op : Operator) (kk : Nat) (fn : PF) : Prop where
  ex : ∃ g fd, FnOk P w K mg base CX0 kk g fd ["self", "other"] (spD (clsM mg) false fn) ∧ L2.Binds K fd ["self", "other"] [] ∧
    PySem.W.findIn K (.ref (clsM mg)) (PySem.dunder op.info.2) = some (some (.ref g)) ∧ PySem.W.isFn K (.ref g) = true ∧ PySem.W.selfFirst K (clsM mg) = true ∧
    ∃ rc fo ro, PySem.W.findIn K (.ref (clsM mg)) (dunderR op.info.2) = some rc ∧ (rc = none ∨ ∃ g : Addr, rc = some (.ref g)) ∧ PySem.W.findIn K (.type "int") (PySem.dunder op.info.2) = some fo ∧ PySem.W.findIn K (.type "int") (dunderR op.info.2) = some ro ∧
      PySem.W.subIn K (.type "int") (.ref (clsM mg)) = some false
def rBop (C : Addr) (fn : PF) : R2 := fun x y H Q => (∃ a dx fs, x = .ref a ∧ H a = some (.ins C dx fs)) ∧ ((∃ i, y = .int i) ∨ ∃ b dy gs, y = .ref b ∧ H b = some (.ins C dy gs)) ∧ spD C false fn [x, y] H Q E0
theorem relV_back {v : V} {u : Value} (r : RelV v u) : u ≠ .notImplemented := by
  cases v with
  | non => cases r; exact fun z => nomatch z
  | bl b => cases r; exact fun z => nomatch z
  | int i => obtain ⟨t, rfl⟩ := r; exact fun z => nomatch z
  | str s => obtain ⟨t, rfl⟩ := r; exact fun z => nomatch z
  | byt s => obtain ⟨t, rfl⟩ := r; exact fun z => nomatch z
  | flt s => obtain ⟨t, rfl⟩ := r; exact fun z => nomatch z
  | ref a => cases r; exact fun z => nomatch z
  | ty n => cases r; exact fun z => nomatch z
theorem cmpBack {Q : Value → Shared → Prop} {u : Value} {s : Shared} (h : u ≠ .notImplemented) (q : Q u s) : PySem.W.CmpBack Q u s := by
  unfold PySem.W.CmpBack
  split
  · exact absurd rfl h
  · exact q
/-- the own method is called with the two values -/
theorem call_two {kk : Nat} {f : Addr} {fd : FuncData} {sp : Sp} {A : Around} {pins : List (Addr × Obj)} {σ : L2.St} {H : Hp} {s : Shared} {Q : VK} {x y : V} {u v : Value} (F : FnOk X.prog X.w X.K X.mg X.base CX0 kk f fd ["self", "other"] sp) (hr : Room kk A) (hfr : A.frames = X.A.frames)
    (hb : L2.Binds X.K fd ["self", "other"] []) (I : Inv X pins σ H s) (rx : RelV x u) (ry : RelV y v) (h : sp [x, y] H Q E0) {E : Value → Shared → Prop} : wpAny (model X.prog X.w) A (call (.ref f) [u, v]) (EP X pins σ Q) E s := by
  have e0 : Env0 X.prog X.w X.K X.mg X.base A X.stack s H := by
    have e := I.env0
    exact ⟨by rw [hfr]; exact e.frames, e.mod, e.bs, e.bsz, e.funs, e.frf, e.hok, e.bare⟩
  have r2 : Vals [x, y] [u, v] := .cons rx (.cons ry .nil)
  refine wpAny_call (codeAny_mono (F.run A X.stack s H ⟨[u, v], []⟩ [u, v] [x, y] Q E0 hr e0 (by
    have := hb s [u, v] I.kIn rfl
    simpa using this) r2 h) fun r s' hq => ?_)
  cases r with
  | error e => exact False.elim hq
  | ok fl =>
    cases fl with
    | ret w => exact I.after hq
    | next => exact False.elim hq
    | brk => exact False.elim hq
    | cont => exact False.elim hq
theorem op_bop {op : Operator} {kk : Nat} {fn : PF} (B : Bop X.prog X.w X.K X.mg X.base op kk fn) (hr : Room kk X.A) : OpR X (binaryOp op) (rBop (clsOf X) fn) := by
  intro pins s σ H x y u v Q I rx ry h
  obtain ⟨g, fd, F, hb, hs, hf, hc, rc, fo, ro, h1, h2, h3, h4, h5⟩ := B.ex
  obtain ⟨⟨a, dx, fs, rfl, ha⟩, hy, hsp⟩ := h
  cases rx
  obtain ⟨mA, J, _⟩ := ins_get I.hok ha
  obtain ⟨od, J, _⟩ := J.look
  obtain ⟨mm, hF⟩ := I.fr
  rcases hy with ⟨i, rfl⟩ | ⟨b, dy, gs, rfl, hb'⟩
  · obtain ⟨t, rfl⟩ := ry
    refine PySem.W.ksp_binT hF I.ok.mod.kin J (T := "int") rfl hc hs hf h1 h2 h3 h4 h5 ?_
    refine wpAny_mono (call_two F hr rfl hb I (x := V.ref a) (y := V.int i) rfl ⟨t, rfl⟩ hsp) (fun w s' q => ?_) fun _ _ z => z
    obtain ⟨z, H', I', rz, q'⟩ := q
    exact cmpBack (relV_back rz) ⟨z, H', I', rz, q'⟩
  · cases ry
    obtain ⟨mB, J', _⟩ := ins_get I.hok hb'
    obtain ⟨od', J', _⟩ := J'.look
    refine PySem.W.binop_K hF I.ok.mod.kin J J'.type hc hs hf ?_
    refine wpAny_mono (call_two F hr rfl hb I (x := V.ref a) (y := V.ref b) rfl rfl hsp) (fun w s' q => ?_) fun _ _ z => z
    obtain ⟨z, H', I', rz, q'⟩ := q
    exact cmpBack (relV_back rz) ⟨z, H', I', rz, q'⟩
def ratInt : D → Bool
  | .rat _ _ | .int _ => true
  | _ => false
def dBop (fn : PF) (fa fb : EF) : EF := fun ρ p => (fa ρ p).bind fun x => (fb ρ x.2).bind fun y => if isR x.1 = true ∧ ratInt y.1 = true then fn [x.1, y.1] y.2 else none
theorem bop_go {fn : PF} {fa fb : EF} {σ : L2.St} {H : Hp} {Q : VK} (h : tD C m (dBop fn fa fb) σ H Q) : tD C m fa σ H fun x H1 => tD C m fb σ H1 fun y H2 => rBop C fn x y H2 Q := by
  obtain ⟨w, ρ, p, ok, d, p', e, q⟩ := h
  unfold dBop at e
  cases e1 : fa ρ p with
  | none => rw [e1] at e; cases e
  | some x =>
    obtain ⟨a, p1⟩ := x
    rw [e1] at e
    simp only [Option.bind_some] at e
    cases e2 : fb ρ p1 with
    | none => rw [e2] at e; cases e
    | some y =>
      obtain ⟨b, p2⟩ := y
      rw [e2] at e
      simp only [Option.bind_some] at e
      split at e
      · rename_i hR
        obtain ⟨hR1, hR2⟩ := hR
        refine ⟨w, ρ, p, ok, a, p1, e1, fun v H1 k1 r1 => ⟨w, ρ, p1, ok.keep k1, b, p2, e2, fun u H2 k2 r2 => ?_⟩⟩
        have o1 := ok.keep k1
        have o2 := o1.keep k2
        have ra := r1.on o1 k2
        have ek : (⟨C, w.k.pa⟩ : Kx) = w.k := by rw [← ok.cls]
        refine ⟨?_, ?_, ?_⟩
        · cases a <;> first | cases hR1 | skip
          cases ra with
          | rat n1 e3 =>
            rw [ok.cls] at e3
            exact ⟨_, _, _, rfl, e3⟩
        · cases b <;> first | cases hR2 | skip
          · cases r2
            exact .inl ⟨_, rfl⟩
          · cases r2 with
            | rat n1 e3 =>
              rw [ok.cls] at e3
              exact .inr ⟨_, _, _, rfl, e3⟩
        · refine ⟨w.k.pa, Md m w ρ σ, p2, [a, b], d, p', o2.pot, fun n => n.nog ok.pgh, ?_, e, fun v H3 k3 r3 => ?_⟩
          · rw [ek]; exact .cons ra (.cons r2 .nil)
          · rw [ek] at k3 r3
            refine q v H3 ((k1.trans k2).trans k3) (r3.weak fun a n => ?_)
            rcases n with ⟨_, n⟩ | n | ⟨dx, fs, n⟩
            · exact n
            · exact Md.al (o2.new n)
            · exact Md.al (o2.ins n)
      · cases e
theorem de_bop {op : Operator} {kk : Nat} {fn : PF} {a b : Expr} {fa fb : EF} {pos : Pos} (B : Bop X.prog X.w X.K X.mg X.base op kk fn) (hr : Room kk X.A) (ha : DE X m a fa) (hb : DE X m b fb) : DE X m (.BinOp a op b pos) (dBop fn fa fb) :=
  PE.weak (pe_op (op_bop B hr) ha hb) fun _ _ _ h => bop_go h
/-- == of two Ratios by the class's own method -/
structure Eqo (P : Program) (w : World) (K : PySem.W.Frag) (mg : Str → Option Value) (base : Heap) (kk : Nat) (fn : PF) : Prop where
  ex : ∃ g fd, FnOk P w K mg base CX0 kk g fd ["self", "other"] (spD (clsM mg) false fn) ∧ L2.Binds K fd ["self", "other"] [] ∧ PySem.W.findIn K (.ref (clsM mg)) "__eq__" = some (some (.ref g)) ∧ PySem.W.isFn K (.ref g) = true
def rEqo (C : Addr) (fn : PF) : R2 := fun x y H Q => (∃ a dx fs, x = .ref a ∧ H a = some (.ins C dx fs)) ∧ (∃ b dy gs, y = .ref b ∧ H b = some (.ins C dy gs)) ∧ spD C false fn [x, y] H Q E0
theorem op_eqo {kk : Nat} {fn : PF} (B : Eqo X.prog X.w X.K X.mg X.base kk fn) (hr : Room kk X.A) : OpR X (compareOp .Eq) (rEqo (clsOf X) fn) := by
  intro pins s σ H x y u v Q I rx ry h
  obtain ⟨g, fd, F, hb, hs, hf⟩ := B.ex
  obtain ⟨⟨a, dx, fs, rfl, ha⟩, ⟨b, dy, gs, rfl, hb'⟩, hsp⟩ := h
  cases rx
  cases ry
  obtain ⟨mA, J, _⟩ := ins_get I.hok ha
  obtain ⟨od, J, _⟩ := J.look
  obtain ⟨mm, hF⟩ := I.fr
  obtain ⟨mB, J', _⟩ := ins_get I.hok hb'
  obtain ⟨od', J', _⟩ := J'.look
  show wpAny _ _ (richCompare .Eq (.ref a) (.ref b)) _ _ _
  refine PySem.W.cmp_K (op := .Eq) (tb := .ref (clsOf X)) hr.units0 hF I.ok.mod.kin J J'.type (by simp [PySem.W.notFirst]) hs hf ?_
  refine wpAny_mono (call_two F hr rfl hb I (x := V.ref a) (y := V.ref b) rfl rfl hsp) (fun w s' q => ?_) fun _ _ z => z
  obtain ⟨z, H', I', rz, q'⟩ := q
  exact cmpBack (relV_back rz) ⟨z, H', I', rz, q'⟩
def dEqo (fn : PF) (fa fb : EF) : EF := fun ρ p => (fa ρ p).bind fun x => (fb ρ x.2).bind fun y => if isR x.1 = true ∧ isR y.1 = true then fn [x.1, y.1] y.2 else none
theorem eqo_go {fn : PF} {fa fb : EF} {σ : L2.St} {H : Hp} {Q : VK} (h : tD C m (dEqo fn fa fb) σ H Q) : tD C m fa σ H fun x H1 => tD C m fb σ H1 fun y H2 => rEqo C fn x y H2 Q := by
  obtain ⟨w, ρ, p, ok, d, p', e, q⟩ := h
  unfold dEqo at e
  cases e1 : fa ρ p with
  | none => rw [e1] at e; cases e
  | some x =>
    obtain ⟨a, p1⟩ := x
    rw [e1] at e
    simp only [Option.bind_some] at e
    cases e2 : fb ρ p1 with
    | none => rw [e2] at e; cases e
    | some y =>
      obtain ⟨b, p2⟩ := y
      rw [e2] at e
      simp only [Option.bind_some] at e
      split at e
      · rename_i hR
        obtain ⟨hR1, hR2⟩ := hR
        refine ⟨w, ρ, p, ok, a, p1, e1, fun v H1 k1 r1 => ⟨w, ρ, p1, ok.keep k1, b, p2, e2, fun u H2 k2 r2 => ?_⟩⟩
        have o1 := ok.keep k1
        have o2 := o1.keep k2
        have ra := r1.on o1 k2
        have ek : (⟨C, w.k.pa⟩ : Kx) = w.k := by rw [← ok.cls]
        refine ⟨?_, ?_, ?_⟩
        · cases a <;> first | cases hR1 | skip
          cases ra with
          | rat n1 e3 =>
            rw [ok.cls] at e3
            exact ⟨_, _, _, rfl, e3⟩
        · cases b <;> first | cases hR2 | skip
          cases r2 with
          | rat n1 e3 =>
            rw [ok.cls] at e3
            exact ⟨_, _, _, rfl, e3⟩
        · refine ⟨w.k.pa, Md m w ρ σ, p2, [a, b], d, p', o2.pot, fun n => n.nog ok.pgh, ?_, e, fun v H3 k3 r3 => ?_⟩
          · rw [ek]; exact .cons ra (.cons r2 .nil)
          · rw [ek] at k3 r3
            refine q v H3 ((k1.trans k2).trans k3) (r3.weak fun a n => ?_)
            rcases n with ⟨_, n⟩ | n | ⟨dx, fs, n⟩
            · exact n
            · exact Md.al (o2.new n)
            · exact Md.al (o2.ins n)
      · cases e
theorem de_eqo {kk : Nat} {fn : PF} {a b : Expr} {fa fb : EF} {pos : Pos} (B : Eqo X.prog X.w X.K X.mg X.base kk fn) (hr : Room kk X.A) (ha : DE X m a fa) (hb : DE X m b fb) : DE X m (.Compare a [.Eq] [b] pos) (dEqo fn fa fb) :=
  PE.weak (pe_cmpR (op_eqo B hr) ha hb (nomark _)) fun _ _ _ h => eqo_go h
theorem dt_eqo {kk : Nat} {fn : PF} {a b : Expr} {fa fb : EF} {pos : Pos} (B : Eqo X.prog X.w X.K X.mg X.base kk fn) (hr : Room kk X.A) (ha : DE X m a fa) (hb : DE X m b fb) : DT X (.Compare a [.Eq] [b] pos) (bOf (dEqo fn fa fb)) :=
  PT.weak (pt_cmpR (op_eqo B hr) ha hb (nomark _)) fun _ _ _ h => eqo_go (bOf_go h)
end DL
namespace DL
open PySem PySem.Spec PyProof.Rows L2
variable {k : Kx} {N N' : Addr → Prop} {H H' H1 H2 : Hp} {w : Wd} {ρ ρ' : DEnv} {σ σ' : L2.St} {p p' p1 p2 : Pot} {X : Cx} {C : Addr} {m m' : Mo}

/-! ### Ratio(top, bottom) -/
def commonOf (t b : Int) : Int := if b < 0 then 0 - ((Nat.gcd t.natAbs b.natAbs : Nat) : Int) else ((Nat.gcd t.natAbs b.natAbs : Nat) : Int)
def mkRat : PF := fun ds p => match ds with
  | [.int t, .int b] => if b ≠ 0 ∧ b.natAbs.log2 < 8999 then some (.rat (t.fdiv (commonOf t b)) (b.fdiv (commonOf t b)), p) else none
  | _ => none
theorem commonOf_ne {t b : Int} (hb : b ≠ 0) : commonOf t b ≠ 0 := by
  have h : 0 < Nat.gcd t.natAbs b.natAbs := Nat.gcd_pos_of_pos_right _ (Int.natAbs_pos.mpr hb)
  unfold commonOf
  split <;> omega
theorem commonOf_abs {t b : Int} : (commonOf t b).natAbs = Nat.gcd t.natAbs b.natAbs := by
  unfold commonOf
  split <;> omega
theorem commonOf_small {t b : Int} (hb : b ≠ 0) (h : b.natAbs.log2 < 8999) : (commonOf t b).natAbs.log2 < 9000 := by
  rw [commonOf_abs]
  have hle : Nat.gcd t.natAbs b.natAbs ≤ b.natAbs := Nat.gcd_le_right _ (Int.natAbs_pos.mpr hb)
  have hb0 : b.natAbs ≠ 0 := by omega
  generalize hn : (8999 : Nat) = n at h
  have h2 : b.natAbs < 2 ^ n := (Nat.log2_lt hb0).mp h
  have h3 : Nat.gcd t.natAbs b.natAbs ≠ 0 := by
    have : 0 < Nat.gcd t.natAbs b.natAbs := Nat.gcd_pos_of_pos_right _ (Int.natAbs_pos.mpr hb)
    omega
  have h4 : Nat.gcd t.natAbs b.natAbs < 2 ^ n := Nat.lt_of_le_of_lt hle h2
  have := (Nat.log2_lt h3).mpr h4
  omega
/-- what __init__ promises -/
def spInit (C : Addr) : Sp := fun vs H Q _ => ∃ (pa : Addr) (p : Pot) (x dx : Addr) (t b : Int), vs = [.ref x, .int t, .int b] ∧ H pa = some (potO p) ∧ x ≠ pa ∧ H x = some (.ins C dx []) ∧ b ≠ 0 ∧ b.natAbs.log2 < 8999 ∧
  ∀ H', (∀ a o, a ≠ x → a ≠ pa → H a = some o → H' a = some o) → H' pa = some (potO p) → H' x = some (.ins C dx [("own_top", .int (t.fdiv (commonOf t b))), ("own_bottom", .int (b.fdiv (commonOf t b)))]) → Q .non H'
theorem seq_go {g : SF} {T : TS} {D : Ends} {σ : L2.St} {H : Hp} (ok : Ok C w ρ p σ H) (e : g ρ p = some (.nx, ρ', p')) (h : ∀ σ' H', Ok C w ρ' p' σ' H' → T D σ' H') : tSeq (tDS C g) T D σ H :=
  ⟨w, ρ, p, ok, .nx, ρ', p', e, fun σ' H' o => h σ' H' o⟩
/-- the readings of __init__'s body -/
theorem init_go {K : PySem.W.Frag} {g1 g2 g3 g4 : SF} {f5 f6 : EF} (R : RatF K C) {N : List Str} (hN : N.length = 4) {pa x dx : Addr} {t b : Int} {Q : VK} (hp : H pa = some (potO p)) (hx : x ≠ pa) (ex : H x = some (.ins C dx [])) (hb : b ≠ 0) (hb2 : b.natAbs.log2 < 8999)
    (e1 : ∀ ρ, ρ = [.sh (.obj x), .sh (.int t), .sh (.int b), .no] → ∀ p, g1 ρ p = some (.nx, ρ, p)) (e2 : ∀ ρ, ρ = [.sh (.obj x), .sh (.int t), .sh (.int b), .no] → ∀ p, g2 ρ p = some (.nx, ρ, p))
    (e3 : ∀ p, g3 [.sh (.obj x), .sh (.int t), .sh (.int b), .no] p = some (.nx, [.sh (.obj x), .sh (.int t), .sh (.int b), .sh (.int ((Nat.gcd t.natAbs b.natAbs : Nat) : Int))], p))
    (e4 : ∀ p, g4 [.sh (.obj x), .sh (.int t), .sh (.int b), .sh (.int ((Nat.gcd t.natAbs b.natAbs : Nat) : Int))] p = some (.nx, [.sh (.obj x), .sh (.int t), .sh (.int b), .sh (.int (commonOf t b))], p))
    (e5 : ∀ p, f5 [.sh (.obj x), .sh (.int t), .sh (.int b), .sh (.int (commonOf t b))] p = some (.int (t.fdiv (commonOf t b)), p))
    (e6 : ∀ p, f6 [.sh (.obj x), .sh (.int t), .sh (.int b), .sh (.int (commonOf t b))] p = some (.int (b.fdiv (commonOf t b)), p))
    (q : ∀ H', (∀ a o, a ≠ x → a ≠ pa → H a = some o → H' a = some o) → H' pa = some (potO p) → H' x = some (.ins C dx [("own_top", .int (t.fdiv (commonOf t b))), ("own_bottom", .int (b.fdiv (commonOf t b)))]) → Q .non H') :
    tSeq (tDS C g1) (tSeq (tDS C g2) (tSeq (tDS C g3) (tSeq (tDS C g4) (tSeq (sFld K (tVar 0) (tD C .al f5) "own_top") (sFld K (tVar 0) (tD C .al f6) "own_bottom"))))) { nx := fun _ H' => Q .non H', rt := Q } (L2.start N [.ref x, .int t, .int b]) H := by
  have nopot : ∀ a o, part H (fun a => a ≠ pa) a = some o → a ≠ pa := fun a o z => (part_some (S := fun a => a ≠ pa).mp z).1
  have hσ : L2.start N [.ref x, .int t, .int b] = [some (.ref x), some (.int t), some (.int b), none] := by
    unfold L2.start
    rw [hN]
    rfl
  rw [hσ]
  have noOwn : ∀ {ρ : DEnv} {s4 : Slot} {σ : L2.St} {a : Addr}, ρ = [.sh (.obj x), .sh (.int t), .sh (.int b), s4] → (∀ l, s4 ≠ .ow l) → ¬ OwnAt ρ σ a := fun {ρ s4 σ a} e hs ⟨i, l, e1, _⟩ => by
    subst e
    match i with
    | 0 => cases e1
    | 1 => cases e1
    | 2 => cases e1
    | 3 => exact hs l (Option.some.inj e1)
    | i + 4 => simp at e1
  have ok0 : ∀ p', H pa = some (potO p') → Ok C ⟨⟨C, pa⟩, fun _ => True, fun a => a = pa, part H (fun a => a ≠ pa), fun _ => none⟩ [.sh (.obj x), .sh (.int t), .sh (.int b), .no] p' [some (.ref x), some (.int t), some (.int b), none] H := fun p' hp => by
    refine ⟨rfl, hp, rfl, fun a e => by rw [show a = pa from e, hp]; exact (fun z => nomatch z), fun a o e => (part_some (S := fun a => a ≠ pa).mp e).2, fun a o e => nopot a o e, fun _ _ => trivial, by simp, fun i s e => ?_, fun i j l m a e1 e2 e3 e4 => (noOwn rfl (fun l z => by cases z) ⟨i, l, e1, e3⟩).elim, fun a o e => (nomatch e), fun a o e => (nomatch e), fun a dx fs e => ⟨trivial, fun z : a = pa => by subst z; first | (rw [hp] at e; cases e; done) | (rw [hpot] at e; cases e)⟩⟩
    match i with
    | 0 => cases e; exact ⟨_, rfl, .obj _⟩
    | 1 => cases e; exact ⟨_, rfl, .int _⟩
    | 2 => cases e; exact ⟨_, rfl, .int _⟩
    | 3 => cases e; trivial
    | i + 4 => simp at e
  refine seq_go (ok0 p hp) (e1 _ rfl p) fun σ1 H1 o1 => seq_go o1 (e2 _ rfl p) fun σ2 H2 o2 => seq_go o2 (e3 p) fun σ3 H3 o3 => seq_go o3 (e4 p) fun σ4 H4 o4 => ?_
  have hx4 : H4 x = some (.ins C dx []) := o4.h0 x _ (part_some (S := fun a => a ≠ pa).mpr ⟨hx, ex⟩)
  have h0 : σ4[0]? = some (some (.ref x)) := by
    obtain ⟨v, ev, rv⟩ := o4.slots 0 _ rfl
    cases rv
    exact ev
  refine ⟨_, _, p, o4, _, p, e5 p, fun v H5 k5 r5 => ⟨_, h0, x, C, dx, [], rfl, k5.1 x _ hx hx4, R.cl, R.nT, by show 0 < 1000; decide, ?_⟩⟩
  cases r5
  have o5 := o4.keep k5
  have o6 : Ok C ⟨⟨C, pa⟩, fun _ => True, fun a => a = pa, part (upd H5 x (.ins C dx (putF "own_top" (.int (t.fdiv (commonOf t b))) []))) (fun a => a ≠ pa), fun _ => none⟩ [.sh (.obj x), .sh (.int t), .sh (.int b), .sh (.int (commonOf t b))] p σ4 (upd H5 x (.ins C dx (putF "own_top" (.int (t.fdiv (commonOf t b))) []))) := by
    have hpot : (upd H5 x (.ins C dx (putF "own_top" (.int (t.fdiv (commonOf t b))) []))) pa = some (potO p) := by
      rw [upd_ne (Ne.symm hx)]
      exact o5.pot
    refine ⟨rfl, hpot, rfl, fun a e => by rw [show a = pa from e, hpot]; exact (fun z => nomatch z), fun a o e => (part_some (S := fun a => a ≠ pa).mp e).2, fun a o e => (part_some (S := fun a => a ≠ pa).mp e).1, fun _ _ => trivial, o5.len, fun i s e => ?_, fun i j l m a e1 e2 e3 e4 => (noOwn rfl (fun l z => by cases z) ⟨i, l, e1, e3⟩).elim, fun a o e => (nomatch e), fun a o e => (nomatch e), fun a dx fs e => ⟨trivial, fun z : a = pa => by subst z; first | (rw [hp] at e; cases e; done) | (rw [hpot] at e; cases e)⟩⟩
    have z := o5.slots i s e
    match i with
    | 0 => cases e; obtain ⟨v, ev, rv⟩ := z; exact ⟨v, ev, rv.flat rfl⟩
    | 1 => cases e; obtain ⟨v, ev, rv⟩ := z; exact ⟨v, ev, rv.flat rfl⟩
    | 2 => cases e; obtain ⟨v, ev, rv⟩ := z; exact ⟨v, ev, rv.flat rfl⟩
    | 3 => cases e; obtain ⟨v, ev, rv⟩ := z; exact ⟨v, ev, rv.flat rfl⟩
    | i + 4 => simp at e
  refine ⟨_, _, p, o6, _, p, e6 p, fun v H7 k7 r7 => ⟨_, h0, x, C, dx, _, rfl, k7.1 x _ hx upd_same, R.cl, R.nB, by show 1 < 1000; decide, ?_⟩⟩
  cases r7
  refine q _ (fun a o n1 n2 e => ?_) ?_ ?_
  · rw [upd_ne n1]
    refine k7.1 a o n2 ?_
    rw [upd_ne n1]
    exact k5.1 a o n2 (o4.h0 a o (part_some (S := fun a => a ≠ pa).mpr ⟨n2, e⟩))
  · rw [upd_ne (Ne.symm hx)]
    exact k7.2
  · rw [upd_same]
    rfl

/-- the class makes Ratios -/
structure Mkr (P : Program) (w : World) (K : PySem.W.Frag) (mg : Str → Option Value) (base : Heap) (kk : Nat) : Prop where
  ex : ∃ f fd, L2.Mk K (clsM mg) f ∧ FnOk P w K mg base CX0 kk f fd ["self", "top", "bottom"] (spInit (clsM mg)) ∧ L2.Binds K fd ["self", "top", "bottom"] [] ∧ ∃ ds, Vals [V.int 1] ds ∧ L2.Binds K fd ["self", "top", "bottom"] ds
  rf : RatF K (clsM mg)
  gl : mg "Ratio" = some (.ref (clsM mg))
theorem mkRat_some {ds : List D} {d : D} (e : mkRat ds p = some (d, p')) : ∃ t b, ds = [.int t, .int b] ∧ b ≠ 0 ∧ b.natAbs.log2 < 8999 ∧ d = .rat (t.fdiv (commonOf t b)) (b.fdiv (commonOf t b)) ∧ p' = p := by
  unfold mkRat at e
  split at e
  · rename_i t b
    split at e
    · rename_i h
      cases e
      exact ⟨t, b, rfl, h.1, h.2, rfl, rfl⟩
    · cases e
  · cases e
theorem make_go {g : AF} {dvs : List V} {dds : List D} (hd : ∀ k N H, RepAll k N H dvs dds) {σ : L2.St} {H : Hp} {Q : VK} (h : tD C m (dCall (fun a => mkRat (a ++ dds)) g) σ H Q) : tMake C (spInit C) dvs E0 (tDA C m' g) σ H Q := by
  obtain ⟨w, ρ, p, ok, d, p', e, q⟩ := h
  unfold dCall at e
  cases e1 : g ρ p with
  | none => rw [e1] at e; cases e
  | some x =>
    obtain ⟨ds, p1⟩ := x
    rw [e1] at e
    simp only [Option.bind_some] at e
    obtain ⟨t, b, hds, hb, hb2, rfl, rfl⟩ := mkRat_some e
    refine ⟨w, ρ, p, ok, ds, p', e1, fun vs H1 k1 r1 x dx nx nd ne => ?_⟩
    have o1 := ok.keep k1
    have r2 := r1.append (hd w.k (Md m' w ρ σ) H1)
    rw [hds] at r2
    have hvs : vs ++ dvs = [.int t, .int b] := by
      generalize vs ++ dvs = us at r2
      cases r2 with
      | cons a r2 =>
        cases a
        cases r2 with
        | cons a r2 =>
          cases a
          cases r2
          rfl
    rw [hvs]
    have xpa : x ≠ w.k.pa := fun z => by rw [z, o1.pot] at nx; cases nx
    have dpa : dx ≠ w.k.pa := fun z => by rw [z, o1.pot] at nd; cases nd
    refine ⟨w.k.pa, p', x, dx, t, b, rfl, ?_, xpa, upd_same, hb, hb2, fun H' k2 hp hx => ⟨rfl, ?_⟩⟩
    · rw [upd_ne xpa.symm, upd_ne dpa.symm]
      exact o1.pot
    · have kk : Keep w.k p' H1 H' := ⟨fun a o n z => k2 a o (ne_of_none z nx) n (by rw [upd_ne (ne_of_none z nx), upd_ne (ne_of_none z nd)]; exact z), hp⟩
      refine q _ H' (k1.trans kk) (.rat (dx := dx) (Md.al (o1.new nx)) ?_)
      rw [ok.cls]
      exact hx
theorem de_mk2 {kk : Nat} {a b : Expr} {g : AF} {pp pos : Pos} (M : Mkr X.prog X.w X.K X.mg X.base kk) (hr : Room (kk + 1) X.A) (hg : Gl X "Ratio") (ha : DA X m [a, b] g)
    (he : starEach [a, b] X.env = (false, eval a X.env) :: starEach [b] X.env := by rfl) (hpl : (backTo pos (starEach [b] X.env)).any (·.1) = false := by rfl) :
    DE X m' (.Call (.Name "Ratio" pp) [a, b] [] pos) (dCall (fun a => mkRat (a ++ [])) g) := by
  obtain ⟨f, fd, Mk, F, hb, _⟩ := M.ex
  exact PE.weak (pe_make Mk F hr hg M.gl hb .nil pass0 ha (by decide) he hpl) fun _ _ _ h => make_go (dvs := []) (dds := []) (fun _ _ _ => .nil) h
theorem de_mk1 {kk : Nat} {a : Expr} {g : AF} {pp pos : Pos} (M : Mkr X.prog X.w X.K X.mg X.base kk) (hr : Room (kk + 1) X.A) (hg : Gl X "Ratio") (ha : DA X m [a] g)
    (he : starEach [a] X.env = (false, eval a X.env) :: starEach [] X.env := by rfl) (hpl : (backTo pos (starEach [] X.env)).any (·.1) = false := by rfl) :
    DE X m' (.Call (.Name "Ratio" pp) [a] [] pos) (dCall (fun a => mkRat (a ++ [.int 1])) g) := by
  obtain ⟨f, fd, Mk, F, _, ds, hv, hb⟩ := M.ex
  exact PE.weak (pe_make Mk F hr hg M.gl hb hv pass0 ha (by decide) he hpl) fun _ _ _ h => make_go (dvs := [V.int 1]) (dds := [.int 1]) (fun _ _ _ => .cons (.int 1) .nil) h
end DL
namespace DL
open PySem PySem.Spec PyProof.Rows L2
variable {k : Kx} {N N' : Addr → Prop} {H H' H1 H2 : Hp} {w : Wd} {ρ ρ' : DEnv} {σ σ' : L2.St} {p p' p1 p2 : Pot} {X : Cx} {C : Addr} {m m' : Mo}

/-! ### the pot: a draw -/
/-- the next mixed number -/
def mixF (c b : Int) : Int := (b * 40692 + c) % 2147483587
def digF (b n : Int) : Int := b * b % 2147483549 / 17 % n
def drawP (c : Int) : PF := fun ds p => match ds with
  | [.pot, .int n] => if 0 < n ∧ n < 1073741824 ∧ 0 ≤ p.2 ∧ p.2 < 2147483648 ∧ 0 ≤ c ∧ c < 1000000 then
      if 0 < p.1 then some (.int (p.1 % n), (p.1 / n, p.2)) else some (.int (digF (mixF c p.2) n), (p.1, mixF c p.2))
    else none
  | _ => none
theorem drawP_some {c : Int} {ds : List D} {d : D} (h : drawP c ds p = some (d, p')) : ∃ n, ds = [.pot, .int n] ∧ (0 < n ∧ n < 1073741824 ∧ 0 ≤ p.2 ∧ p.2 < 2147483648 ∧ 0 ≤ c ∧ c < 1000000) ∧
    ((0 < p.1 ∧ d = .int (p.1 % n) ∧ p' = (p.1 / n, p.2)) ∨ (¬ 0 < p.1 ∧ d = .int (digF (mixF c p.2) n) ∧ p' = (p.1, mixF c p.2))) := by
  unfold drawP at h
  split at h
  · split at h
    · rename_i n hn
      split at h
      · rename_i hp
        cases h
        exact ⟨n, rfl, hn, .inl ⟨hp, rfl, rfl⟩⟩
      · rename_i hp
        cases h
        exact ⟨n, rfl, hn, .inr ⟨hp, rfl, rfl⟩⟩
    · cases h
  · cases h
abbrev tIx0 (K : PySem.W.Frag) (i : Int) : TE := tOp (rIxL K) (tVar 0) (tC (.int i))
/-- the reading of a draw's body -/
abbrev tDraw (K : PySem.W.Frag) (c : Int) : TS :=
  tSeq (tIfS (tTest (tOp (rI0 fun i j => .bl (decide (j < i))) (tIx0 K 0) (tC (.int 0))))
      (tSeq (tAsg (tCB (fun xs H Q => ∃ i j, xs = [.int i, .int j] ∧ CDiv i j ∧ ∀ p, H p = none → Q (.ref p) (upd H p (.tup [.int (i / j), .int (i % j)]))) (tCons (tIx0 K 0) (tCons (tVar 1) tNil))) (gTup K 2 (gCons (L2.gSub (tVar 0) (tC (.int 0)) rSetL) (gCons (gName 2) gNil))))
        (tRet (tVar 2))) tNext)
    (tSeq (tAsg (tOp (rI (fun _ j => 0 < j) fun i j => .int (i % j)) (tCB (fun xs H Q => (∃ i, xs = [.int i] ∧ Q (.int i) H) ∨ ∃ k, xs = [.bl k] ∧ Q (.int (if k then 1 else 0)) H)
          (tCons (tOp (rI0 fun i j => .int (i + j)) (tOp (rI CMul fun i j => .int (i * j)) (tIx0 K 1) (tC (.int 40692))) (tC (.int c))) tNil)) (tC (.int 2147483587))) (L2.gSub (tVar 0) (tC (.int 1)) rSetL))
      (tRet (tOp (rI (fun _ j => 0 < j) fun i j => .int (i % j)) (tCB (fun xs H Q => (∃ i, xs = [.int i] ∧ Q (.int i) H) ∨ ∃ k, xs = [.bl k] ∧ Q (.int (if k then 1 else 0)) H)
          (tCons (tOp (rI CDiv fun i j => .int (i / j)) (tOp (rI (fun _ j => 0 < j) fun i j => .int (i % j)) (tCB (fun xs H Q => (∃ i, xs = [.int i] ∧ Q (.int i) H) ∨ ∃ k, xs = [.bl k] ∧ Q (.int (if k then 1 else 0)) H)
            (tCons (tOp (rI CMul fun i j => .int (i * j)) (tIx0 K 1) (tIx0 K 1)) tNil)) (tC (.int 2147483549))) (tC (.int 17))) tNil)) (tVar 1))))
theorem potO_eq (p : Pot) : potO p = .lst [.int p.1, .int p.2] := rfl
theorem ix_at {K : PySem.W.Frag} {i : Int} {j : Nat} {a : Addr} {xs : List V} {v : V} {σ : L2.St} {Q : VK} (hσ : σ[0]? = some (some (.ref a))) (e : H a = some (.lst xs)) (hi : i = (j : Int)) (hv : xs[j]? = some v) (q : Q v H) : tIx0 K i σ H Q :=
  ⟨_, hσ, a, xs, i, v, rfl, rfl, SqL.of e, by rw [hi]; exact atI_nat hv, q⟩
theorem draw_go {K : PySem.W.Frag} {c : Int} {N : List Str} (hN : N.length = 3) {vs : List V} {Q : VK} {E : XK} (h : spD C false (drawP c) vs H Q E) : tDraw K c { nx := fun _ H' => Q .non H', rt := Q } (L2.start N vs) H := by
  obtain ⟨pa, S, p, ds, d, p', hp, nS, r, e, q⟩ := h
  obtain ⟨n, rfl, ⟨g1, g2, g3, g4, g5, g6⟩, e⟩ := drawP_some e
  obtain ⟨rfl⟩ : vs = [.ref pa, .int n] := by
    cases r with
    | cons r1 r2 =>
      cases r1
      cases r2 with
      | cons r1 r2 =>
        cases r1
        cases r2
        exact rfl
  have hσ : L2.start N [.ref pa, .int n] = [some (.ref pa), some (.int n), none] := by
    unfold L2.start
    rw [hN]
    rfl
  rw [hσ]
  rw [potO_eq] at hp
  refine ix_at (j := 0) rfl hp rfl rfl ⟨_, _, rfl, rfl, _, rfl, ?_⟩
  rcases e with ⟨h1, rfl, rfl⟩ | ⟨h1, rfl, rfl⟩
  · rw [if_pos (decide_eq_true h1)]
    refine ix_at (j := 0) rfl hp rfl rfl ⟨.int n, rfl, p.1, n, rfl, ⟨g1, g2⟩, fun T nT => ?_⟩
    have nTp : pa ≠ T := ne_of_none hp nT
    refine ⟨T, _, rfl, SqT.of upd_same, rfl, _, _, rfl, _, rfl, pa, _, 0, 0, rfl, rfl, by rw [upd_ne nTp]; exact hp, rfl, _, _, rfl, rfl, ?_⟩
    refine ⟨_, rfl, ?_⟩
    refine q _ _ ⟨fun a o na e => ?_, ?_⟩ (.int _)
    · rw [upd_ne na, upd_ne (ne_of_none e nT)]
      exact e
    · exact upd_same
  · have hd : decide ((0 : Int) < p.1) = false := decide_eq_false h1
    rw [hd, if_neg Bool.false_ne_true]
    refine ix_at (j := 1) rfl hp rfl rfl ⟨_, _, rfl, rfl, .inr ⟨by omega, by omega⟩, _, _, rfl, rfl, .inl ⟨_, rfl, _, _, rfl, rfl, (by show (0 : Int) < 2147483587; decide), ?_⟩⟩
    refine ⟨_, rfl, pa, _, 1, 1, rfl, rfl, hp, rfl, ?_⟩
    have hp2 : (upd H pa (.lst ([V.int p.1, V.int p.2].set 1 (.int ((p.2 * 40692 + c) % 2147483587))))) pa = some (.lst [.int p.1, .int (mixF c p.2)]) := upd_same
    have hm0 : 0 ≤ mixF c p.2 := Int.emod_nonneg _ (by decide)
    have hm1 : mixF c p.2 < 2147483587 := Int.emod_lt_of_pos _ (by decide)
    refine ix_at (j := 1) rfl hp2 rfl rfl (ix_at (j := 1) rfl hp2 rfl rfl ⟨_, _, rfl, rfl, .inr ⟨by omega, by omega⟩, .inl ⟨_, rfl, _, _, rfl, rfl, (by show (0 : Int) < 2147483549; decide), _, _, rfl, rfl, ⟨by decide, by decide⟩, .inl ⟨_, rfl, .int n, rfl, _, _, rfl, rfl, g1, ?_⟩⟩⟩)
    refine q _ _ ⟨fun a o na e => ?_, ?_⟩ (.int _)
    · rw [upd_ne na]
      exact e
    · exact upd_same

/-! ### a pick -/
/-- the drawn item of a list: the list's spine may be anybody's -/
def spPick (C : Addr) (c : Int) : Sp := fun vs H Q _ => ∃ (pa a : Addr) (S : Addr → Prop) (p : Pot) (xs : List V) (l : List D) (i : Int) (d : D) (p' : Pot), vs = [.ref pa, .ref a] ∧ H pa = some (potO p) ∧ ¬ S pa ∧ a ≠ pa ∧ H a = some (.lst xs) ∧ RepAll ⟨C, pa⟩ S H xs l ∧
  drawP c [.pot, .int l.length] p = some (.int i, p') ∧ atI l i = some d ∧ ∀ v H', Keep ⟨C, pa⟩ p' H H' → Rep ⟨C, pa⟩ S H' v d → Q v H'
structure Pck (P : Program) (w : World) (K : PySem.W.Frag) (mg : Str → Option Value) (base : Heap) (kk : Nat) (c : Int) : Prop where
  ex : ∃ f fd, FnOk P w K mg base CX0 kk f fd ["pot", "some"] (spPick (clsM mg) c) ∧ mg "_law_pick" = some (.ref f) ∧ PySem.W.keepIn K (.ref f) = true ∧ L2.Binds K fd ["pot", "some"] []
theorem pick_go {K : PySem.W.Frag} {c : Int} {N : List Str} (hN : N.length = 2) {vs : List V} {Q : VK} {E : XK} (h : spPick C c vs H Q E) :
    tRet (tOp (rIx K) (tVar 1) (tCall (spD C false (drawP c)) [] E0 (tCons (tVar 0) (tCons (tCB (fun xs H Q => ∃ p ys, xs = [.ref p] ∧ (SqL K H p ys ∨ SqT K H p ys) ∧ Q (.int ys.length) H) (tCons (tVar 1) tNil)) tNil)))) { nx := fun _ H' => Q .non H', rt := Q } (L2.start N vs) H := by
  obtain ⟨pa, a, S, p, xs, l, i, d, p', rfl, hp, nS, nap, ea, r, e, ei, q⟩ := h
  have hσ : L2.start N [.ref pa, .ref a] = [some (.ref pa), some (.ref a)] := by
    unfold L2.start
    rw [hN]
    rfl
  rw [hσ]
  refine ⟨_, rfl, _, rfl, _, rfl, a, xs, rfl, .inl (SqL.of ea), pa, fun _ => False, p, [.pot, .int l.length], .int i, p', hp, fun z => z, ?_, e, fun v H' k1 r1 => ?_⟩
  · rw [r.length]
    exact .cons .pot (.cons (.int _) .nil)
  · cases r1
    have r' : RepAll ⟨C, pa⟩ S H' xs l := r.keep fun b o n e => k1.1 b o (fun (z : b = pa) => nS (z ▸ n)) e
    obtain ⟨v, ev, rv⟩ := r'.atI ei
    exact .inl ⟨a, xs, i, v, rfl, rfl, SqL.of (k1.1 a _ nap ea), ev, q v H' k1 rv⟩
def dPick (c : Int) (f : EF) (h : LF) : EF := fun ρ p => (f ρ p).bind fun x => (h ρ x.2).bind fun y => match x.1 with
  | .pot => (drawP c [.pot, .int y.1.length] y.2).bind fun z => match z.1 with
    | .int i => (atI y.1 i).map fun d => (d, z.2)
    | _ => none
  | _ => none
theorem de_pick {kk : Nat} {c : Int} {a b : Expr} {f : EF} {h : LF} {sf : Bool} {pp pos : Pos} (G : Pck X.prog X.w X.K X.mg X.base kk c) (hr : Room kk X.A) (hg : Gl X "_law_pick") (ha : DE X m' a f) (hb : DSrc X sf m b h)
    (he : starEach [a, b] X.env = (false, eval a X.env) :: starEach [b] X.env := by rfl) (he2 : starEach [b] X.env = (false, eval b X.env) :: starEach [] X.env := by rfl) (hpl : (backTo pos (starEach [b] X.env)).any (·.1) = false := by rfl) :
    DE X m (.Call (.Name "_law_pick" pp) [a, b] [] pos) (dPick c f h) := by
  obtain ⟨g, fd, F, hm, hk, hbd⟩ := G.ex
  refine PE.weak (pe_call F hr hg hm hk hbd .nil pass0 (pa_cons ha (pa_cons hb pa_nil he2) he) (by decide) he hpl) fun σ H Q ⟨w, ρ, p, ok, d, p', e, q⟩ => ?_
  unfold dPick at e
  cases e1 : f ρ p with
  | none => rw [e1] at e; cases e
  | some x =>
    obtain ⟨dx, p1⟩ := x
    rw [e1] at e
    simp only [Option.bind_some] at e
    cases e2 : h ρ p1 with
    | none => rw [e2] at e; cases e
    | some y =>
      obtain ⟨l, p2⟩ := y
      rw [e2] at e
      simp only [Option.bind_some] at e
      cases dx <;> first | cases e | skip
      cases e3 : drawP c [.pot, .int l.length] p2 with
      | none => rw [e3] at e; cases e
      | some z =>
        obtain ⟨di, p3⟩ := z
        rw [e3] at e
        simp only [Option.bind_some] at e
        have hdi : ∃ i, di = .int i := by
          cases di <;> first | exact ⟨_, rfl⟩ | cases e
        obtain ⟨i, rfl⟩ := hdi
        dsimp only at e
        · cases e4 : L2.atI l i with
          | none => rw [e4] at e; cases e
          | some d' =>
            rw [e4] at e
            cases e
            refine ⟨w, ρ, p, ok, _, p1, e1, fun v H1 k1 r1 => ⟨w, ρ, p1, ok.keep k1, l, p2, e2, fun a xs H2 k2 ea g1 o1 r2 => ?_⟩⟩
            cases r1
            have o2 := (ok.keep k1).keep k2
            have ek : (⟨clsOf X, w.k.pa⟩ : Kx) = w.k := by rw [← ok.cls]
            refine ⟨w.k.pa, a, Md m w ρ σ, p2, xs, l, i, d, p', rfl, o2.pot, fun n => n.nog ok.pgh, ok.nopot g1, ea, ?_, e3, e4, fun v H3 k3 r3 => ?_⟩
            · rw [ek]; exact r2
            · rw [ek] at k3 r3
              exact q v H3 ((k1.trans k2).trans k3) r3
/-- the pot's def: printed for each law; its promise is a Dfn -/
theorem draw_ok {P : Program} {w : World} {K : PySem.W.Frag} {mg : Str → Option Value} {base : Heap} {c : Int} {x qual : Str} {st : Stmt} {f : Addr} {fd : FuncData} {N : List Str} {kk : Nat} (hN : N.length = 3) (F : L2.Fun K x qual st f fd) (S : FnScope N ["pot", "many"] (defScope st))
    (hbody : ∀ (cdv : Value) (A : Around) (outer : List PySem.Env) (s : Shared) (H : Hp) (E : XK), Room kk (A.deeper (envOfC qual (defScope st) s.heap.objs.size f cdv)) →
      PSs (cxOf CX0 P w K mg base N qual (defScope st) f cdv A outer s H E).nox (defBody st) (tDraw K c)) : FnOk P w K mg base CX0 (kk + 1) f fd ["pot", "many"] (spD (clsM mg) false (drawP c)) := by
  have hlen : ∀ vs H Q E, spD (clsM mg) false (drawP c) vs H Q E → vs.length = 2 := fun vs H Q E ⟨pa, S', p, ds, d, p', _, _, r, e, _⟩ => by
    obtain ⟨n, rfl, _⟩ := drawP_some e
    rw [r.length]
    rfl
  exact F.ok S hlen fun cdv A outer s H vs Q E hr h => ⟨_, hbody cdv A outer s H E hr, draw_go hN h⟩
theorem pick_ok {P : Program} {w : World} {K : PySem.W.Frag} {mg : Str → Option Value} {base : Heap} {c : Int} {x qual : Str} {st : Stmt} {f : Addr} {fd : FuncData} {N : List Str} {kk : Nat} (hN : N.length = 2) (F : L2.Fun K x qual st f fd) (S : FnScope N ["pot", "some"] (defScope st))
    (hbody : ∀ (cdv : Value) (A : Around) (outer : List PySem.Env) (s : Shared) (H : Hp) (E : XK), Room kk (A.deeper (envOfC qual (defScope st) s.heap.objs.size f cdv)) →
      PSs (cxOf CX0 P w K mg base N qual (defScope st) f cdv A outer s H E).nox (defBody st) (tRet (tOp (rIx K) (tVar 1) (tCall (spD (clsM mg) false (drawP c)) [] E0 (tCons (tVar 0) (tCons (tCB (fun xs H Q => ∃ p ys, xs = [.ref p] ∧ (SqL K H p ys ∨ SqT K H p ys) ∧ Q (.int ys.length) H) (tCons (tVar 1) tNil)) tNil)))))) :
    FnOk P w K mg base CX0 (kk + 1) f fd ["pot", "some"] (spPick (clsM mg) c) := by
  have hlen : ∀ vs H Q E, spPick (clsM mg) c vs H Q E → vs.length = 2 := fun vs H Q E ⟨pa, a, S', p, xs, l, i, d, p', h, _⟩ => by
    rw [h]
    rfl
  exact F.ok S hlen fun cdv A outer s H vs Q E hr h => ⟨_, hbody cdv A outer s H E hr, pick_go hN h⟩

end DL
namespace DL
open PySem PySem.Spec PyProof.Rows L2
open Builtin Builtin.List
variable {k : Kx} {N N' : Addr → Prop} {H H' H1 H2 H0 : Hp} {w : Wd} {ρ ρ' : DEnv} {σ σ' : L2.St} {p p' p1 p2 : Pot} {X : Cx} {C : Addr} {m m' : Mo}

/-! ### repr of data, below Ratios by their own __repr__ -/
structure Rpr (P : Program) (w : World) (K : PySem.W.Frag) (mg : Str → Option Value) (base : Heap) (kk : Nat) (fn : PF) : Prop where
  ex : ∃ g fd, FnOk P w K mg base CX0 kk g fd ["self"] (spD (clsM mg) false fn) ∧ L2.Binds K fd ["self"] [] ∧ PySem.W.findIn K (.ref (clsM mg)) "__repr__" = some (some (.ref g)) ∧ PySem.W.isFn K (.ref g) = true
mutual
def rpD (fn : PF) (pt : Pot) : D → Option Str
  | .non => some "None"
  | .bl b => some (if b then "True" else "False")
  | .int i => if i.natAbs.log2 < 1920 then some (toString i) else none
  | .str x => if (reprText x).length ≤ 65536 then some (reprText x) else none
  | .lst l => (rpAll fn pt l).map listText
  | .tup l => (rpAll fn pt l).map tupleText
  | .rat t b => (fn [.rat t b] pt).bind fun x => match x.1 with
    | .str s => if x.2 = pt then some s else none
    | _ => none
  | _ => none
def rpAll (fn : PF) (pt : Pot) : List D → Option (List Str)
  | [] => some []
  | d :: ds => (rpD fn pt d).bind fun t => (rpAll fn pt ds).map fun ts => t :: ts
end
mutual
def dpD : D → Nat
  | .lst l => dpAll l + 1
  | .tup l => dpAll l + 1
  | _ => 0
def dpAll : List D → Nat
  | [] => 0
  | d :: ds => max (dpD d) (dpAll ds)
end
theorem dpAll_mem : ∀ {ds : List D} {d : D}, d ∈ ds → dpD d ≤ dpAll ds
  | [], _, h => absurd h (by simp)
  | e :: ds, d, h => by
    unfold dpAll
    rcases List.mem_cons.mp h with rfl | h
    · exact Nat.le_max_left _ _
    · exact Nat.le_trans (dpAll_mem h) (Nat.le_max_right _ _)
theorem rpAll_get {fn : PF} {pt : Pot} : ∀ {ds : List D} {ts : List Str} {i : Nat} {d : D}, rpAll fn pt ds = some ts → ds[i]? = some d → ∃ t, ts[i]? = some t ∧ rpD fn pt d = some t
  | [], _, _, _, _, h => by simp at h
  | e :: ds, ts, i, d, h, hi => by
    unfold rpAll at h
    cases e1 : rpD fn pt e with
    | none => rw [e1] at h; cases h
    | some t =>
      rw [e1] at h
      simp only [Option.bind_some] at h
      cases e2 : rpAll fn pt ds with
      | none => rw [e2] at h; cases h
      | some us =>
        rw [e2] at h
        cases h
        cases i with
        | zero => simp at hi; subst hi; exact ⟨t, rfl, e1⟩
        | succ i =>
          obtain ⟨u, h1, h2⟩ := rpAll_get e2 (by simpa using hi)
          exact ⟨u, by simpa using h1, h2⟩
theorem rpAll_len {fn : PF} {pt : Pot} : ∀ {ds : List D} {ts : List Str}, rpAll fn pt ds = some ts → ts.length = ds.length
  | [], _, h => by cases h; rfl
  | e :: ds, ts, h => by
    unfold rpAll at h
    cases e1 : rpD fn pt e with
    | none => rw [e1] at h; cases h
    | some t =>
      rw [e1] at h
      simp only [Option.bind_some] at h
      cases e2 : rpAll fn pt ds with
      | none => rw [e2] at h; cases h
      | some us =>
        rw [e2] at h
        cases h
        simp [rpAll_len e2]
mutual
theorem Rep.det {fn : PF} {pt : Pot} : ∀ (d d' : D) {v : V}, Rep k N H v d → Rep k N H v d' → rpD fn pt d ≠ none → rpD fn pt d' ≠ none → d = d'
  | .non, d', _, r, r', _, h' => by cases r; cases r'; rfl
  | .bl _, d', _, r, r', _, h' => by cases r; cases r'; rfl
  | .int _, d', _, r, r', _, h' => by cases r; cases r'; rfl
  | .str _, d', _, r, r', _, h' => by cases r; cases r'; rfl
  | .ty _, d', _, r, r', _, h' => by cases r; cases r'; rfl
  | .pot, _, _, _, _, h, _ => absurd rfl h
  | .obj _, _, _, _, _, h, _ => absurd rfl h
  | .edict, _, _, _, _, h, _ => absurd rfl h
  | .rat _ _, d', _, r, r', h, h' => by
    cases r with
    | rat n e =>
      cases r' with
      | lst _ e' _ => rw [e] at e'; cases e'
      | tup _ e' _ => rw [e] at e'; cases e'
      | rat _ e' => rw [e] at e'; cases e'; rfl
      | edict _ e' => rw [e] at e'; cases e'
      | pot => exact absurd rfl h'
      | obj => exact absurd rfl h'
  | .lst l, d', _, r, r', h, h' => by
    cases r with
    | lst n e a =>
      cases r' with
      | lst _ e' a' =>
        rw [e] at e'
        cases e'
        rw [RepAll.det l _ a a' (fun z => h (by unfold rpD; rw [z]; rfl)) (fun z => h' (by unfold rpD; rw [z]; rfl))]
      | tup _ e' _ => rw [e] at e'; cases e'
      | rat _ e' => rw [e] at e'; cases e'
      | edict _ e' => rw [e] at e'; cases e'
      | pot => exact absurd rfl h'
      | obj => exact absurd rfl h'
  | .tup l, d', _, r, r', h, h' => by
    cases r with
    | tup n e a =>
      cases r' with
      | tup _ e' a' =>
        rw [e] at e'
        cases e'
        rw [RepAll.det l _ a a' (fun z => h (by unfold rpD; rw [z]; rfl)) (fun z => h' (by unfold rpD; rw [z]; rfl))]
      | lst _ e' _ => rw [e] at e'; cases e'
      | rat _ e' => rw [e] at e'; cases e'
      | edict _ e' => rw [e] at e'; cases e'
      | pot => exact absurd rfl h'
      | obj => exact absurd rfl h'
theorem RepAll.det {fn : PF} {pt : Pot} : ∀ (d d' : List D) {v : List V}, RepAll k N H v d → RepAll k N H v d' → rpAll fn pt d ≠ none → rpAll fn pt d' ≠ none → d = d'
  | [], _, _, r, r', _, _ => by cases r; cases r'; rfl
  | d :: ds, d', _, r, r', h, h' => by
    cases r with
    | cons a b =>
      cases r' with
      | cons a' b' =>
        have q1 := Rep.det d _ a a' (fun z => h (by unfold rpAll; rw [z]; rfl)) (fun z => h' (by unfold rpAll; rw [z]; rfl))
        have q2 := RepAll.det ds _ b b' (fun z => h (by unfold rpAll; rw [z]; cases rpD fn pt d <;> rfl)) (fun z => h' (by unfold rpAll; rw [z]; rename_i x _ _ _ ; cases rpD fn pt _ <;> rfl))
        rw [q1, q2]
end

/-! ### the loop -/
def RG (X : Cx) (kx : Kx) (pt : Pot) (H0 : Hp) (lev : Nat) (B : List Code → Prop) (u : Value) (t : Str) : Prop :=
  ∀ (base : Nat), base + t.length ≤ sizeLine → ∀ (A : Around) (g : List Code) (pins : List (Addr × Obj)) (σ : L2.St) (H : Hp) (s : Shared) (E : Value → Shared → Prop) (Q : Str → Shared → Prop), A.frames = some X.stack → A.guards = some g → B g → Room lev A →
    Inv X pins σ H s → Keep kx pt H0 H → (∀ H' s', Inv X pins σ H' s' → Keep kx pt H0 H' → Q t s') → wpAny (model X.prog X.w) A (pyReprUnder base u) Q E s
section
variable {kx : Kx} {pt : Pot} {lev base : Nat} {B : List Code → Prop} {u : Value} {t : Str}
theorem RG.of_is (h : ReprIs X.prog X.w u t) : RG X kx pt H0 lev B u t := fun base hb A _ pins σ H s E Q _ _ _ _ I kk hQ => h base hb A E s Q fun tk => hQ H _ (I.tok tk) kk
theorem depth_loop (A : Around) (args : Args) : (A.under (.builtin "list.__repr__.loop" args)).depth = A.depth + 1 := by
  first | rfl | simp [Around.under, Code.weight, Code.isCreation, Code.isGuard, Code.isCaller, Code.frames, Code.isFrame, guardIds]
theorem frames_loop (A : Around) (args : Args) : (A.under (.builtin "list.__repr__.loop" args)).frames = A.frames := by
  first | rfl | simp [Around.under, Code.envs, Code.isFrame, pushEnvs]
theorem handled_loop (A : Around) (args : Args) : (A.under (.builtin "list.__repr__.loop" args)).handled = A.handled := rfl
theorem room_loop {A : Around} (args : Args) (r : Room (lev + 1) A) : Room lev (A.under (.builtin "list.__repr__.loop" args)) :=
  ⟨r.hd, by have := r.dp; rw [depth_loop]; omega, by have := r.un; rw [units_under_list_loop]; omega⟩

theorem repr_loopG {a P : Addr} {xs : List V} {ts : List Str} {A : Around} {g : List Code} {R : Result → Shared → Prop} {pins : List (Addr × Obj)} {σ : L2.St} (hg : A.guards = some g) (hfr : A.frames = some X.stack) (hB : ∀ rest, B (.builtin "list.__repr__.loop" ⟨.ref a :: rest, []⟩ :: g)) (hr : Room (lev + 1) A)
    (ea : H0 a = some (.lst xs)) (na : a ≠ kx.pa) (hlen : ts.length = xs.length) (hT : ∀ (i : Nat) (x : V), xs[i]? = some x → ∃ t, ts[i]? = some t ∧ ∀ u, RelV x u → RG X kx pt H0 lev B u t)
    (hsz : base + (listText ts).length ≤ sizeLine) :
    ∀ (n i : Nat) (s : Shared) (H : Hp) (acc : Array Value) (c : Nat) (done : List (Str × Tok)), xs.length - i = n → i ≤ xs.length → Inv X pins σ H s → Keep kx pt H0 H → FpOk X pins H P →
    s.heap.get? P = some { cls := .type "list", dict := none, data := .seq acc c, slots := #[] } → acc.toList = strValues done → done.map (·.1) = ts.take i →
    (∀ H' s' v, Inv X pins σ H' s' → Keep kx pt H0 H' → R (.ok (.ret (.str (listText ts) v))) s') →
    codeAny (model X.prog X.w) A (.builtin "list.__repr__.loop" ⟨[.ref a, rawInt i, .ref P, rawInt ((base + piled (ts.take i) : Nat) : Int)], []⟩) R s := by
  have hX : (listText ts).length = (textFrom 0 "[" ts).length + 1 := by
    show (textFrom 0 "[" ts ++ "]").length = _
    rw [strLen_append]; rfl
  have hL := textFrom_len ts 0 "["
  have hsz1 : xs.length ≤ sizeLine := by
    have h1 := hL.1
    rw [if_neg (Nat.lt_irrefl 0)] at h1
    omega
  have hsz2 : ∀ t ∈ ts, t.length ≤ sizeLine := fun t ht => by
    have h2 := hL.2.1 t ht
    omega
  have hsz3 : (listText ts).length ≤ sizeLine := by omega
  have hp3 := piled_le_listText ts
  intro n
  induction n with
  | zero =>
    intro i s H acc c done hk hi I kk fp hP hacc hdone hR
    have hin : i = xs.length := by omega
    obtain ⟨hz, its, na', rv, ha⟩ := I.hok a _ (kk.1 a _ na ea)
    refine codeAny_builtin F.entry_list_repr_loop ?_
    show wpAny _ _ («list.__repr__.loop» ⟨[.ref a, .int i 0, .ref P, .int ((base + piled (ts.take i) : Nat) : Int) 0], []⟩) _ _ s
    rw [repr_loop_tree]
    refine wpAny_bind (wpAny_listItems ha rfl ?_)
    have hnone : its.toArray[(i : Int).toNat]? = none := by
      have := rv.length
      simp [hin]
      omega
    simp only [hnone]
    unfold reprEnd
    refine wpAny_bind (wpAny_listItems hP rfl ?_)
    rw [hacc, repr_fold]
    refine wpAny_bind (wpAny_pure ?_)
    have hall : done.map (·.1) = ts := by rw [hdone, hin, ← hlen, List.take_length]
    rw [hall]
    refine wpAny_bind (wpAny_mkStr (wpAny_pure ?_) hsz3)
    exact hR H _ _ (I.tok _) kk
  | succ n ih =>
    intro i s H acc c done hk hi I kk fp hP hacc hdone hR
    have hlt : i < xs.length := by omega
    obtain ⟨t, ht, hrep⟩ := hT i xs[i] (by simp [hlt])
    have hp1 := piled_take_succ ht
    have hp2 := piled_take_le ts (i + 1)
    obtain ⟨hz, its, na', rv, ha⟩ := I.hok a _ (kk.1 a _ na ea)
    have hlt' : i < its.length := by rw [← rv.length]; exact hlt
    have rx : RelV xs[i] its[i] := by
      obtain ⟨u, h1, h2⟩ := rv.get (i := i) (x := xs[i]) (by simp [hlt])
      have : u = its[i] := by simpa [hlt'] using h1.symm
      rw [← this]; exact h2
    refine codeAny_builtin F.entry_list_repr_loop ?_
    show wpAny _ _ («list.__repr__.loop» ⟨[.ref a, .int i 0, .ref P, .int ((base + piled (ts.take i) : Nat) : Int) 0], []⟩) _ _ s
    rw [repr_loop_tree]
    refine wpAny_bind (wpAny_listItems ha rfl ?_)
    have hsome : its.toArray[(i : Int).toNat]? = some its[i] := by simp [hlt']
    simp only [hsome]
    rw [Int.toNat_natCast]
    have I' : Inv X ((P, { cls := .type "list", dict := none, data := .seq acc c, slots := #[] }) :: pins) σ H s := I.pins_of fun p hp => by
      rcases List.mem_cons.mp hp with rfl | hp
      · exact ⟨hP, fp.1, fp.2.1, fp.2.2.1, fun v z => nomatch z⟩
      · exact I.pin p (List.mem_append_right _ hp)
    refine wpAny_bind (wpAny_holding (hrep _ rx (base + piled (ts.take i) + 1) (by omega) _ _ _ _ _ _ _ _ (by rw [frames_loop]; exact hfr) (guards_under_guard (isGuard_list_loop _) hg) (hB _) (room_loop _ hr) I' kk fun H' s' J k2 => ?_))
    have hP' := (J.pin (P, _) (List.mem_append_right _ (List.mem_cons_self ..))).1
    have fp' : FpOk X pins H' P := ⟨(J.pin (P, _) (List.mem_append_right _ (List.mem_cons_self ..))).2.1, fp.2⟩
    have J1 : Inv X pins σ H' s' := J.pins_of fun p hp => J.pin p (List.mem_append_right _ (List.mem_cons_of_mem _ hp))
    refine wpAny_bind (wpAny_mkStr ?_ (hsz2 t (List.mem_of_getElem? ht)))
    refine wpAny_bind ?_
    show wpAny _ _ (updateSeq P _) _ _ _
    have hasz : acc.size ≤ sizeLine := by
      have e1 : acc.toList.length = acc.size := by simp
      have e2 : (strValues done).length = done.length := by simp [strValues]
      have e3 : done.length = (ts.take i).length := by rw [← hdone, List.length_map]
      have e4 : (ts.take i).length ≤ i := by rw [List.length_take]; omega
      rw [hacc] at e1; omega
    refine wpAny_updateSeq hP' rfl (wpAny_pure ⟨F.quiet_list_repr_loop _, ?_⟩) hasz
    have e1 : ((i : Int) + 1) = ((i + 1 : Nat) : Int) := by omega
    have e2 : base + piled (ts.take i) + (t.length + 2) = base + piled (ts.take (i + 1)) := by omega
    rw [e1, e2]
    have J2 : Inv X pins σ H' { s' with heap := s'.heap.update P (Obj.mapSeq fun x => x.push (.str t s'.toks)), toks := s'.toks + 1 } :=
      J1.turnedL (ch := [P]) (fun b o hb e => (Heap.get?_update_other _ _ (fun h : P = b => hb (by simp [h]))).trans e) fun b hb => by
        have : b = P := by simpa using hb
        rw [this]; exact fp'
    refine ih (i + 1) _ H' (acc.push (.str t s'.toks)) _ (done ++ [(t, s'.toks)]) (by omega) hlt J2 k2 fp' (Heap.get?_update_self _ hP' rfl) (by simp [hacc, strValues]) (by simp [List.take_add_one, ht, hdone]) hR

theorem RG.weak {lev' : Nat} {B' : List Code → Prop} (h : RG X kx pt H0 lev B u t) (hl : lev ≤ lev') (hb : ∀ g, B' g → B g) : RG X kx pt H0 lev' B' u t :=
  fun base hz A g pins σ H s E Q h1 h2 h3 h4 I kk hQ => h base hz A g pins σ H s E Q h1 h2 (hb g h3) (h4.mono hl) I kk hQ
/-- a list: its head, then the loop -/
theorem repr_listG {a : Addr} {xs : List V} {ts : List Str} {A : Around} {g : List Code} {R : Result → Shared → Prop} {pins : List (Addr × Obj)} {σ : L2.St} {H : Hp} {s : Shared} (hg : A.guards = some g) (hfr : A.frames = some X.stack) (hB : ∀ rest, B (.builtin "list.__repr__.loop" ⟨.ref a :: rest, []⟩ :: g)) (hcl : Clear g a) (hr : Room (lev + 1) A)
    (ea : H0 a = some (.lst xs)) (na : a ≠ kx.pa) (hx : xs ≠ []) (hlen : ts.length = xs.length) (hT : ∀ (i : Nat) (x : V), xs[i]? = some x → ∃ t, ts[i]? = some t ∧ ∀ u, RelV x u → RG X kx pt H0 lev B u t)
    (hsz : base + (listText ts).length ≤ sizeLine) (I : Inv X pins σ H s) (kk : Keep kx pt H0 H) (hR : ∀ H' s' v, Inv X pins σ H' s' → Keep kx pt H0 H' → R (.ok (.ret (.str (listText ts) v))) s') :
    wpAny (model X.prog X.w) A.in1 (Builtin.listReprAt base ⟨[.ref a], []⟩) (fun fin s' => match fin with | .done f => R (.ok f) s' | .again c' => c'.quiet = true ∧ codeAny (model X.prog X.w) A c' R s') (fun e s' => R (.error e) s') s := by
  obtain ⟨hz, its, n, rv, ha⟩ := I.hok a _ (kk.1 a _ na ea)
  obtain ⟨y, l, rfl⟩ : ∃ y l, its = y :: l := by
    cases its with
    | nil => cases rv; exact absurd rfl hx
    | cons y l => exact ⟨y, l, rfl⟩
  refine wpAny_list_repr_head (A := A.in1) hg (fun v rest kw hm => listSameRef_of_ne (hcl _ _ _ _ hm)) ha rfl ?_
  refine wpAny_bind (m := newList []) (wpAny_newObj_type ?_)
  refine wpAny_pure ⟨F.quiet_list_repr_loop _, ?_⟩
  have J : Inv X pins σ H { s with heap := s.heap.push { cls := .type "list", dict := none, data := .seq #[] 0 }, toks := s.toks } := I.kept fun _ _ e => Heap.get?_push_of_some _ e
  exact repr_loopG (P := s.heap.objs.size) hg hfr hB hr ea na hlen hT hsz _ 0 _ H #[] _ [] rfl (Nat.zero_le _) J kk (I.fpOk (Nat.le_refl _) (I.hok.fresh (Nat.le_refl _))) (Heap.get?_push_size _ rfl) rfl (by simp) hR
theorem rg_list {a : Addr} {xs : List V} {ts : List Str} {Bo : List Code → Prop} (hB : ∀ g, Bo g → Clear g a ∧ ∀ rest, B (.builtin "list.__repr__.loop" ⟨.ref a :: rest, []⟩ :: g))
    (ea : H0 a = some (.lst xs)) (na : a ≠ kx.pa) (hlen : ts.length = xs.length) (hT : ∀ (i : Nat) (x : V), xs[i]? = some x → ∃ t, ts[i]? = some t ∧ ∀ u, RelV x u → RG X kx pt H0 lev B u t) :
    RG X kx pt H0 (lev + 1) Bo (.ref a) (listText ts) := by
  intro base hb A g pins σ H s E Q hfr hg hbo hr I kk hQ
  have ha0 := I.hok a _ (kk.1 a _ na ea)
  obtain ⟨hz, its, n, rv, ha⟩ := ha0
  by_cases hx : xs = []
  · subst hx
    cases rv
    obtain rfl : ts = [] := List.eq_nil_of_length_eq_zero hlen
    exact wpAny_pyReprUnder_ref (by omega) (wpAny_pyReprObjUnder_list_empty ⟨_, ha, rfl⟩ hr.units0 ha rfl ⟨_, _, rfl, hQ H _ (I.tok _) kk⟩)
  · exact wpAny_pyReprUnder_ref (by omega) (wpAny_pyReprObjUnder_twin (twin := "list.__repr__.under") ⟨_, ha, rfl⟩ F.slot_list_repr.toG rfl hr.units0
      (call_twin_plain F.plain_list_repr_under F.entry_list_repr_under F.check_list_repr_under ⟨_, ha, rfl⟩ F.slot_list_repr.toG (F.args_list_repr_1 _)
        (repr_listG (R := callEnd (fun v s' => (∃ x u, v = .str x u) ∧ ∃ x u, v = .str x u ∧ Q x s') E) hg hfr (hB g hbo).2 (hB g hbo).1 hr ea na hx hlen hT hb I kk fun H' s' v J k2 => ⟨⟨_, _, rfl⟩, _, _, rfl, hQ H' s' J k2⟩)))
/-! ### tuples -/
theorem tupFoldG {A : Around} {g : List Code} {pins : List (Addr × Obj)} {σ : L2.St} {E : Value → Shared → Prop} (hg : A.guards = some g) (hfr : A.frames = some X.stack) (hB : B g) (hr : Room lev A) : ∀ (l : List Value) (ts : List Str) (acc : Array Str) (n : Nat) (s : Shared) (H : Hp) (Q : (Array Str × Nat) → Shared → Prop),
    ts.length = l.length → (∀ (i : Nat) (u : Value), l[i]? = some u → ∃ t, ts[i]? = some t ∧ RG X kx pt H0 lev B u t) → n + piled ts ≤ sizeLine → Inv X pins σ H s → Keep kx pt H0 H →
    (∀ H' s', Inv X pins σ H' s' → Keep kx pt H0 H' → Q ⟨acc ++ ts.toArray, n + piled ts⟩ s') →
    wpAny (model X.prog X.w) A (forIn l (⟨acc, n⟩ : (Array Str × Nat)) tupBody) Q E s := by
  intro l
  induction l with
  | nil =>
    intro ts acc n s H Q hl hT hn I kk h
    obtain rfl : ts = [] := List.eq_nil_of_length_eq_zero hl
    have h0 := h H s I kk
    simp only [List.forIn_nil]
    exact wpAny_pure (by simpa [piled] using h0)
  | cons x l ih =>
    intro ts acc n s H Q hl hT hn I kk h
    cases ts with
    | nil => cases hl
    | cons t ts' =>
      obtain ⟨t1, ht, hx⟩ := hT 0 x rfl
      obtain rfl : t = t1 := by simpa using ht
      rw [piled_cons] at hn
      rw [List.forIn_cons]
      refine wpAny_bind (wpAny_bind (hx (n + 1) (by omega) _ _ _ _ _ _ _ _ hfr hg hB hr I kk fun H' s' J k2 => wpAny_pure ?_))
      refine ih ts' (acc.push t) (n + (t.length + 2)) _ H' Q (by simpa using hl) (fun i u hi => by simpa using hT (i + 1) u (by simpa using hi)) (by omega) J k2 fun H'' s'' J2 k3 => ?_
      have h1 := h H'' s'' J2 k3
      have e : n + piled (t :: ts') = n + (t.length + 2) + piled ts' := by rw [piled_cons]; omega
      rw [e] at h1
      simpa using h1
theorem repr_tupleG {a : Addr} {xs : List V} {ts : List Str} {A : Around} {g : List Code} {R : Result → Shared → Prop} {pins : List (Addr × Obj)} {σ : L2.St} {H : Hp} {s : Shared} {id : String} {rest : List Value} (hcg : (Code.builtin id ⟨.ref a :: rest, []⟩).isGuard = true)
    (hr' : Room lev (A.under (.builtin id ⟨.ref a :: rest, []⟩))) (hfr' : (A.under (.builtin id ⟨.ref a :: rest, []⟩)).frames = some X.stack) (hg : A.guards = some g) (hB : B (.builtin id ⟨.ref a :: rest, []⟩ :: g)) (hcl : Clear g a)
    (ea : H0 a = some (.tup xs)) (na : a ≠ kx.pa) (hlen : ts.length = xs.length) (hT : ∀ (i : Nat) (x : V), xs[i]? = some x → ∃ t, ts[i]? = some t ∧ ∀ u, RelV x u → RG X kx pt H0 lev B u t)
    (hsz : base + (tupleText ts).length ≤ sizeLine) (I : Inv X pins σ H s) (kk : Keep kx pt H0 H) (hR : ∀ H' s' v, Inv X pins σ H' s' → Keep kx pt H0 H' → R (.ok (.ret (.str (tupleText ts) v))) s') :
    wpOwn (model X.prog X.w) A (.builtin id ⟨.ref a :: rest, []⟩) (Builtin.tupleReprAt base ⟨[.ref a], []⟩) (fun fin s' => match fin with | .done f => R (.ok f) s' | .again c' => c'.quiet = true ∧ codeAny (model X.prog X.w) A c' R s') (fun e s' => R (.error e) s') s := by
  obtain ⟨hz, its, rv, o, ha, hc, n, hd⟩ := I.hok a _ (kk.1 a _ na ea)
  have hlen' : ts.length = its.length := by rw [hlen, rv.length]
  have hp := piled_le_tupleText ts
  have hsz0 : (tupleText ts).length ≤ sizeLine := by omega
  rw [tuple_repr_tree, tupleReprUnderWay_eq]
  refine wpOwn_bind (wpOwn_stackTailAny hg (tupGuardF_off _) (tupGuardF_pos _) ?_)
  have hn : (g.any fun c => tupGuardF (.ref a) (c, default)) = false := by
    rw [List.any_eq_false]
    intro c hcm
    rw [tupGuardF_of_clear hcl c hcm]
    exact Bool.false_ne_true
  rw [hn]
  refine wpOwn_of_wpAny ?_
  show wpAny _ _ (tupleReprRest base (.ref a)) _ _ s
  unfold tupleReprRest Builtin.Tuple.tupleItemsOf
  refine wpAny_bind (wpAny_bind (wpAny_seqItems ha hd (wpAny_pure ?_)))
  rw [← Array.forIn_toList]
  refine wpAny_bind (tupFoldG (guards_under_guard hcg hg) hfr' hB hr' its ts _ _ _ H _ hlen' (fun i u hi => ?_) (by omega) I kk fun H' s' J k2 => ?_)
  · obtain ⟨x, h1, h2⟩ : ∃ x, xs[i]? = some x ∧ RelV x u := by
      have hi' : i < its.length := (List.getElem?_eq_some_iff.mp hi).1
      have hx' : i < xs.length := by rw [rv.length]; exact hi'
      obtain ⟨u', h1, h2⟩ := rv.get (i := i) (x := xs[i]) (by simp [hx'])
      rw [hi] at h1
      cases h1
      exact ⟨_, by simp [hx'], h2⟩
    obtain ⟨t, h3, h4⟩ := hT i x h1
    exact ⟨t, h3, h4 u h2⟩
  refine wpAny_bind (wpAny_mkStr (wpAny_pure ?_) (by simpa [tupleText, hlen'] using hsz0))
  have h1 := hR H' { s' with toks := s'.toks + 1 } s'.toks (J.tok _) k2
  simpa [tupleText, hlen'] using h1

theorem depth_tup (A : Around) (args : Args) : (A.under (.builtin "tuple.__repr__.under" args)).depth = A.depth + 1 := by
  first | rfl | simp [Around.under, Code.weight, Code.isCreation, Code.isGuard, Code.isCaller, Code.frames, Code.isFrame, guardIds]
theorem frames_tup (A : Around) (args : Args) : (A.under (.builtin "tuple.__repr__.under" args)).frames = A.frames := by
  first | rfl | simp [Around.under, Code.envs, Code.isFrame, pushEnvs]
theorem room_tup {A : Around} (args : Args) (r : Room (lev + 1) A) : Room lev (A.under (.builtin "tuple.__repr__.under" args)) :=
  ⟨r.hd, by have := r.dp; have := depth_tup A args; omega, by have := r.un; rw [units_under_tuple_repr_under]; omega⟩
theorem depth_tup' (A : Around) (args : Args) : (A.under (.builtin "tuple.__repr__" args)).depth = A.depth + 1 := by
  first | rfl | simp [Around.under, Code.weight, Code.isCreation, Code.isGuard, Code.isCaller, Code.frames, Code.isFrame, guardIds]
theorem frames_tup' (A : Around) (args : Args) : (A.under (.builtin "tuple.__repr__" args)).frames = A.frames := by
  first | rfl | simp [Around.under, Code.envs, Code.isFrame, pushEnvs]
theorem room_tup' {A : Around} (args : Args) (r : Room (lev + 1) A) : Room lev (A.under (.builtin "tuple.__repr__" args)) :=
  ⟨r.hd, by have := r.dp; have := depth_tup' A args; omega, by have := r.un; rw [units_under_tuple_repr]; omega⟩
theorem rg_tup {a : Addr} {xs : List V} {ts : List Str} {Bo : List Code → Prop} (hB : ∀ g, Bo g → Clear g a ∧ ∀ id rest, B (.builtin id ⟨.ref a :: rest, []⟩ :: g))
    (ea : H0 a = some (.tup xs)) (na : a ≠ kx.pa) (hlen : ts.length = xs.length) (hT : ∀ (i : Nat) (x : V), xs[i]? = some x → ∃ t, ts[i]? = some t ∧ ∀ u, RelV x u → RG X kx pt H0 lev B u t) :
    RG X kx pt H0 (lev + 1) Bo (.ref a) (tupleText ts) := by
  intro base hb A g pins σ H s E Q hfr hg hbo hr I kk hQ
  obtain ⟨hz, its, rv, o, ha, hc, n, hd⟩ := I.hok a _ (kk.1 a _ na ea)
  exact wpAny_pyReprUnder_ref (by omega) (wpAny_pyReprObjUnder_twin (twin := "tuple.__repr__.under") ⟨o, ha, hc⟩ F.slot_tuple_repr rfl hr.units0
      (call_twin_own (F.quiet_tuple_repr_under _) F.entry_tuple_repr_under F.check_tuple_repr_under ⟨o, ha, hc⟩ F.slot_tuple_repr (F.args_tuple_repr_1 _)
        (repr_tupleG (R := callEnd (fun v s' => (∃ x u, v = .str x u) ∧ ∃ x u, v = .str x u ∧ Q x s') E) (isGuard_tuple_repr_under _) (room_tup _ hr) (by rw [frames_tup]; exact hfr) hg ((hB g hbo).2 _ _) (hB g hbo).1 ea na hlen hT hb I kk fun H' s' v J k2 => ⟨⟨_, _, rfl⟩, _, _, rfl, hQ H' s' J k2⟩)))
/-! ### a Ratio -/
theorem call_one {kk : Nat} {f : Addr} {fd : FuncData} {sp : Sp} {A : Around} {pins : List (Addr × Obj)} {σ : L2.St} {H : Hp} {s : Shared} {Q : VK} {x : V} {u : Value} (F : FnOk X.prog X.w X.K X.mg X.base CX0 kk f fd ["self"] sp) (hr : Room kk A) (hfr : A.frames = some X.stack)
    (hb : L2.Binds X.K fd ["self"] []) (I : Inv X pins σ H s) (rx : RelV x u) (h : sp [x] H Q E0) {E : Value → Shared → Prop} : wpAny (model X.prog X.w) A (call (.ref f) [u]) (EP X pins σ Q) E s := by
  have e0 : Env0 X.prog X.w X.K X.mg X.base A X.stack s H := by
    have e := I.env0
    exact ⟨hfr, e.mod, e.bs, e.bsz, e.funs, e.frf, e.hok, e.bare⟩
  have r2 : Vals [x] [u] := .cons rx .nil
  refine wpAny_call (codeAny_mono (F.run A X.stack s H ⟨[u], []⟩ [u] [x] Q E0 hr e0 (by
    have := hb s [u] I.kIn rfl
    simpa using this) r2 h) fun r s' hq => ?_)
  cases r with
  | error e => exact False.elim hq
  | ok fl =>
    cases fl with
    | ret w => exact I.after hq
    | next => exact False.elim hq
    | brk => exact False.elim hq
    | cont => exact False.elim hq
theorem rg_rat {kk : Nat} {fn : PF} {a : Addr} {i j : Int} (G : Rpr X.prog X.w X.K X.mg X.base kk fn) (hC : kx.C = clsOf X) (hN : ¬ N kx.pa) (hpot : H0 kx.pa = some (potO pt)) (r : Rep kx N H0 (.ref a) (.rat i j)) (e : fn [.rat i j] pt = some (.str t, pt)) : RG X kx pt H0 (kk + lev) B (.ref a) t := by
  obtain ⟨f, fd, F, hb, hs, hf⟩ := G.ex
  intro base hz A g pins σ H s E Q hfr hg hbo hr I kp hQ
  have na : a ≠ kx.pa := by
    cases r with
    | rat n _ => exact fun z => hN (z ▸ n)
  have rH : Rep kx N H (.ref a) (.rat i j) := r.keep fun b o n e => kp.1 b o (fun z => hN (z ▸ n)) e
  obtain ⟨dx, ea⟩ : ∃ dx, H a = some (.ins (clsOf X) dx [("own_top", .int i), ("own_bottom", .int j)]) := by
    cases rH with
    | rat n e => rw [hC] at e; exact ⟨_, e⟩
  obtain ⟨mA, J, _⟩ := ins_get I.hok ea
  obtain ⟨od, J, _⟩ := J.look
  refine wpAny_pyReprUnder_ref (by omega) ?_
  unfold pyReprObjUnder pyReprObjBy
  refine wpAny_bind (wpAny_cRoomFor hr.units0 ?_)
  refine wpAny_bind (wpAny_bind (J.type.here ((PySem.W.looks_findIn I.kIn hs).here ?_)))
  show wpAny _ _ (if (some (Value.ref f)).isNone = true then _ else _) _ _ _
  rw [if_neg (by simp)]
  have step : wpAny (model X.prog X.w) A (call (.ref f) [.ref a]) (fun v s' => ∃ u', v = .str t u' ∧ Q t s') E s := by
    have ek : (⟨clsM X.mg, kx.pa⟩ : Kx) = kx := by
      cases kx
      cases hC
      rfl
    refine wpAny_mono (call_one F (hr.mono (Nat.le_add_right _ _)) hfr hb I (x := V.ref a) rfl (Q := fun v H' => v = .str t ∧ Keep kx pt H0 H') ?_) (fun v s' q => ?_) fun _ _ z => z
    · refine ⟨kx.pa, N, pt, [.rat i j], .str t, pt, kp.2, hN, by rw [ek]; exact .cons rH .nil, e, fun v H' k1 r1 => ?_⟩
      rw [ek] at k1 r1
      cases r1
      exact ⟨rfl, kp.trans k1⟩
    · obtain ⟨z, H', I', rz, rfl, k2⟩ := q
      obtain ⟨u', rfl⟩ := rz
      exact ⟨u', rfl, hQ H' s' I' k2⟩
  refine wpAny_bind (m := callSpecialIfBoundBy? _ (.ref a) (Str.ofString "__repr__")) ?_
  simp only [callSpecialIfBoundBy?, bindSpecialIfBound?]
  have fin : wpAny (model X.prog X.w) A ((match reprUnder? (.ref f), [Value.ref a] with
      | some twin, [self] => call twin [self, rawInt base]
      | _, _ => call (.ref f) ([Value.ref a] ++ [])) >>= fun v => pure (some v)) (fun r s' => wpAny (model X.prog X.w) A (match r with
    | some r => do if ← isInstance r (.type "str") then pure r else raiseError "TypeError" s!"__repr__ returned non-string (type {← typeNameOf r})"
    | none => unsupported "repr:special-get-raises") (fun v s' => ∃ x u, v = .str x u ∧ Q x s') E s') E s := by
    refine wpAny_bind (wpAny_mono step (fun v s' hv => wpAny_pure ?_) fun _ _ h' => h')
    obtain ⟨u', rfl, hq⟩ := hv
    exact wpAny_bind (wpAny_isInstance (T := "str") (b := true) rfl isSubtype_str_str (wpAny_pure ⟨_, _, rfl, hq⟩))
  refine wpAny_holding (wpAny_bind (wpAny_bind (wpAny_bind (J.type.here ((PySem.W.looks_findIn I.kIn hs).here ?_)))))
  refine wpAny_bind (wpAny_askSetting (wpAny_ite ?_))
  split
  · exact wpAny_bind ((PySem.W.bind_fn I.kIn _ (beq_iff_eq.mp hf)).here (wpAny_pure (by exact fin)))
  · exact wpAny_tryCatch (wpAny_bind ((PySem.W.bind_fn I.kIn _ (beq_iff_eq.mp hf)).here (wpAny_pure (by exact fin))))

/-- nothing that is under way in g bears a datum as deep as n -/
def Bd (kx : Kx) (N : Addr → Prop) (H0 : Hp) (fn : PF) (pt : Pot) (n : Nat) (g : List Code) : Prop := ∀ (b : Addr) (d' : D), Rep kx N H0 (.ref b) d' → rpD fn pt d' ≠ none → dpD d' ≤ n → Clear g b
theorem Bd.nil {fn : PF} {n : Nat} : Bd kx N H0 fn pt n [] := fun b _ _ _ _ => Clear.nil b
theorem Bd.down {fn : PF} {n i : Nat} {g : List Code} (h : Bd kx N H0 fn pt n g) (hi : i ≤ n) : Bd kx N H0 fn pt i g := fun b d' r e l => h b d' r e (Nat.le_trans l hi)
theorem Bd.cons {fn : PF} {n : Nat} {g : List Code} {a : Addr} {d : D} {id : String} {rest : List Value} (h : Bd kx N H0 fn pt n g) (r : Rep kx N H0 (.ref a) d) (e : rpD fn pt d ≠ none) (hd : n < dpD d) : Bd kx N H0 fn pt n (.builtin id ⟨.ref a :: rest, []⟩ :: g) :=
  fun b d' r' e' l => (h b d' r' e' l).cons fun z => by
    subst z
    have := Rep.det _ _ r r' e e'
    subst this
    omega
theorem rpD_lst {fn : PF} {l : List D} {t : Str} (h : rpD fn pt (.lst l) = some t) : ∃ ts, rpAll fn pt l = some ts ∧ t = listText ts := by
  unfold rpD at h
  cases e : rpAll fn pt l with
  | none => rw [e] at h; cases h
  | some ts => rw [e] at h; cases h; exact ⟨ts, rfl, rfl⟩
theorem rpD_tup {fn : PF} {l : List D} {t : Str} (h : rpD fn pt (.tup l) = some t) : ∃ ts, rpAll fn pt l = some ts ∧ t = tupleText ts := by
  unfold rpD at h
  cases e : rpAll fn pt l with
  | none => rw [e] at h; cases h
  | some ts => rw [e] at h; cases h; exact ⟨ts, rfl, rfl⟩
theorem rg_d {kk : Nat} {fn : PF} (G : Rpr X.prog X.w X.K X.mg X.base kk fn) (hC : kx.C = clsOf X) (hN : ¬ N kx.pa) (hpot : H0 kx.pa = some (potO pt)) : ∀ (n : Nat) (d : D), dpD d ≤ n → ∀ {v : V} {t : Str} {u : Value}, Rep kx N H0 v d → rpD fn pt d = some t → RelV v u → RG X kx pt H0 (kk + n) (Bd kx N H0 fn pt n) u t := by
  intro n
  induction n with
  | zero =>
    intro d hd v t u r e ru
    cases r with
    | non => cases ru; cases e; exact .of_is ReprIs.none
    | bl b => cases ru; cases e; exact .of_is (ReprIs.bool b)
    | int i =>
      obtain ⟨tk, rfl⟩ := ru
      unfold rpD at e
      split at e
      · rename_i h; cases e; exact .of_is (ReprIs.int tk h)
      · cases e
    | str x =>
      obtain ⟨tk, rfl⟩ := ru
      unfold rpD at e
      split at e
      · rename_i h; cases e; exact .of_is (ReprIs.str x tk (small_line h))
      · cases e
    | ty m => cases e
    | lst _ _ _ => unfold dpD at hd; omega
    | tup _ _ _ => unfold dpD at hd; omega
    | rat na ea =>
      cases ru
      unfold rpD at e
      cases e1 : fn [.rat _ _] pt with
      | none => rw [e1] at e; cases e
      | some x =>
        obtain ⟨x1, x2⟩ := x
        rw [e1] at e
        simp only [Option.bind_some] at e
        cases x1 <;> first | cases e | skip
        dsimp only at e
        split at e
        · rename_i h; cases e; subst h
          exact rg_rat (lev := 0) G hC hN hpot (.rat na ea) e1
        · cases e
    | edict _ _ => cases e
    | pot => cases e
    | obj a => cases e
  | succ n ih =>
    intro d hd v t u r e ru
    by_cases hle : dpD d ≤ n
    · exact (ih d hle r e ru).weak (Nat.le_succ _) fun g h => h.down (Nat.le_succ _)
    · have hen : rpD fn pt d ≠ none := by rw [e]; exact fun z => nomatch z
      have r0 := r
      cases r with
      | @lst _ _ ds na ea ra =>
        cases ru
        obtain ⟨ts, h1, rfl⟩ := rpD_lst e
        have hda : dpAll ds ≤ n := by unfold dpD at hd; omega
        refine rg_list (B := Bd kx N H0 fn pt n) (fun g hb => ⟨hb _ _ r0 hen hd, fun rest => (hb.down (Nat.le_succ _)).cons r0 hen (by omega)⟩) ea (fun z => hN (z ▸ na)) (by rw [rpAll_len h1, ra.length]) fun i x hx => ?_
        obtain ⟨d', h2, h3⟩ := ra.getV hx
        obtain ⟨t', h4, h5⟩ := rpAll_get h1 h2
        exact ⟨t', h4, fun u ru => ih d' (Nat.le_trans (dpAll_mem (List.mem_of_getElem? h2)) hda) h3 h5 ru⟩
      | @tup _ _ ds na ea ra =>
        cases ru
        obtain ⟨ts, h1, rfl⟩ := rpD_tup e
        have hda : dpAll ds ≤ n := by unfold dpD at hd; omega
        refine rg_tup (B := Bd kx N H0 fn pt n) (fun g hb => ⟨hb _ _ r0 hen hd, fun id rest => (hb.down (Nat.le_succ _)).cons r0 hen (by omega)⟩) ea (fun z => hN (z ▸ na)) (by rw [rpAll_len h1, ra.length]) fun i x hx => ?_
        obtain ⟨d', h2, h3⟩ := ra.getV hx
        obtain ⟨t', h4, h5⟩ := rpAll_get h1 h2
        exact ⟨t', h4, fun u ru => ih d' (Nat.le_trans (dpAll_mem (List.mem_of_getElem? h2)) hda) h3 h5 ru⟩
      | non => exact absurd (Nat.zero_le _) hle
      | bl b => exact absurd (Nat.zero_le _) hle
      | int i => exact absurd (Nat.zero_le _) hle
      | str x => exact absurd (Nat.zero_le _) hle
      | ty m => exact absurd (Nat.zero_le _) hle
      | rat na ea => exact absurd (Nat.zero_le _) hle
      | edict _ _ => exact absurd (Nat.zero_le _) hle
      | pot => exact absurd (Nat.zero_le _) hle
      | obj a => exact absurd (Nat.zero_le _) hle
/-! ### repr(x) of a list, a tuple -/
def isSeq : D → Bool
  | .lst _ | .tup _ => true
  | _ => false
def rRepr (C : Addr) (fn : PF) : List V → Hp → VK → Prop := fun vs H Q => ∃ (pa : Addr) (N : Addr → Prop) (pt : Pot) (d : D) (v : V) (t : Str), vs = [v] ∧ H pa = some (potO pt) ∧ ¬ N pa ∧ Rep ⟨C, pa⟩ N H v d ∧ isSeq d = true ∧ dpD d ≤ 8 ∧ rpD fn pt d = some t ∧ t.length ≤ sizeLine ∧ ∀ H', Keep ⟨C, pa⟩ pt H H' → Q (.str t) H'
theorem cr_repr {kk : Nat} {fn : PF} (G : Rpr X.prog X.w X.K X.mg X.base kk fn) (hgd : X.A.guards = some []) (hr : Room (kk + 10) X.A) : CallR X (.builtin "repr") (rRepr (clsOf X) fn) := by
  intro pins s σ H vs us Q I rv ⟨pa, N, pt, d, v, t, e, hp, hN, r, hq, hdp, er, hz, q⟩
  subst e
  obtain ⟨u, rfl, ru⟩ := vals1 rv
  refine Calls.call_function_entry PySem.F.kind_repr PySem.F.plain_repr PySem.F.entry_repr (PySem.F.args_repr1 _) ?_
  unfold Builtin.«repr»
  refine wpAny_bind (m := oneArg "repr" _) (wpAny_pure ?_)
  have hr1 : Room (kk + 9) X.A.in1 := hr.in1
  have hen : rpD fn pt d ≠ none := by rw [er]; exact fun z => nomatch z
  have r0 := r
  have kp : Keep ⟨clsOf X, pa⟩ pt H H := ⟨fun _ _ _ e => e, hp⟩
  have done : ∀ {H' : Hp} {s' : Shared} {x : Tok}, Inv X pins σ H' s' → Keep ⟨clsOf X, pa⟩ pt H H' → EP X pins σ Q (.str t x) s' := fun J k2 => ⟨.str t, _, J, ⟨_, rfl⟩, q _ k2⟩
  refine wpAny_bind (wpAny_cRoomFor hr1.units0 ?_)
  cases d <;> first | (cases hq; done) | skip
  · rename_i ds
    cases r with
    | lst na ea ra =>
      cases ru
      obtain ⟨ts, h1, rfl⟩ := rpD_lst er
      have hda : dpAll ds ≤ 7 := by unfold dpD at hdp; omega
      obtain ⟨hz', its, n, rvs, ha⟩ := I.hok _ _ ea
      have hTy : s.TypeIs (.ref _) "list" := ⟨_, ha, rfl⟩
      refine wpAny_bind (wpAny_specialOf (name := Str.ofString "__repr__") hTy F.slot_list_repr.lookup ?_)
      by_cases hx : its = []
      · subst hx
        have hts : ts = [] := by
          apply List.eq_nil_of_length_eq_zero
          rw [rpAll_len h1, ← ra.length, rvs.length]
          rfl
        subst hts
        refine wpAny_bind (m := callSpecialIfBound? (.ref _) (Str.ofString "__repr__")) (wpAny_callSpecialIfBound?_slot (name := Str.ofString "__repr__") hTy F.slot_list_repr (call_list_repr_empty hTy ha rfl ?_))
        exact wpAny_bind (wpAny_isInstance (T := "str") (b := true) rfl isSubtype_str_str (wpAny_pure ⟨_, rfl, done (I.tok _) kp⟩))
      · refine wpAny_bind (m := callSpecialIfBound? (.ref _) (Str.ofString "__repr__")) (wpAny_callSpecialIfBound?_slot (name := Str.ofString "__repr__") hTy F.slot_list_repr
          (wpAny_call (codeAny_call_builtin F.slot_list_repr.plain F.entry_list_repr (F.slot_list_repr.check _ _ _ _ _ _ _ _ hTy (F.args_list_repr_1 _) ?_))))
        refine repr_listG (R := callEnd _ _) (base := 0) (lev := kk + dpAll ds) (B := Bd ⟨clsOf X, pa⟩ N H fn pt (dpAll ds)) (kx := ⟨clsOf X, pa⟩) (pt := pt) (H0 := H) (g := []) hgd I.ok.frames (fun rest => Bd.nil.cons r0 hen (by unfold dpD; omega)) (Clear.nil _) (hr1.mono (by omega)) ea (fun (z : _ = pa) => hN (z ▸ na)) ?_ (by rw [rpAll_len h1, ra.length]) (fun i x hx => ?_) (by omega) I kp fun H' s' v J k2 => ?_
        · rintro rfl
          cases rvs
          exact hx rfl
        · obtain ⟨d', h2, h3⟩ := ra.getV hx
          obtain ⟨t', h4, h5⟩ := rpAll_get h1 h2
          exact ⟨t', h4, fun u ru => rg_d G rfl hN hp _ d' (dpAll_mem (List.mem_of_getElem? h2)) h3 h5 ru⟩
        · exact wpAny_bind (wpAny_isInstance (T := "str") (b := true) rfl isSubtype_str_str (wpAny_pure ⟨_, rfl, done J k2⟩))
  · rename_i ds
    cases r with
    | tup na ea ra =>
      cases ru
      obtain ⟨ts, h1, rfl⟩ := rpD_tup er
      have hda : dpAll ds ≤ 7 := by unfold dpD at hdp; omega
      obtain ⟨hz', its, rvs, o, ha, hc, n, hd⟩ := I.hok _ _ ea
      have hTy : s.TypeIs (.ref _) "tuple" := ⟨o, ha, hc⟩
      refine wpAny_bind (wpAny_specialOf (name := Str.ofString "__repr__") hTy F.slot_tuple_repr.lookup ?_)
      refine wpAny_bind (m := callSpecialIfBound? (.ref _) (Str.ofString "__repr__")) (wpAny_callSpecialIfBound?_slotG (name := Str.ofString "__repr__") hTy F.slot_tuple_repr
        (wpAny_call (codeAny_call_builtin_own (Code.quiet_builtin _ (by decide +kernel)) F.entry_tuple_repr (F.slot_tuple_repr.check _ _ _ _ _ _ _ _ hTy (F.args_tuple_repr_1 _) ?_))))
      refine repr_tupleG (R := callEnd _ _) (base := 0) (lev := kk + dpAll ds) (B := Bd ⟨clsOf X, pa⟩ N H fn pt (dpAll ds)) (kx := ⟨clsOf X, pa⟩) (pt := pt) (H0 := H) (g := []) (isGuard_tuple_repr _) (room_tup' _ (hr1.mono (by omega))) (by rw [frames_tup']; exact I.ok.frames) hgd (Bd.nil.cons r0 hen (by unfold dpD; omega)) (Clear.nil _) ea (fun (z : _ = pa) => hN (z ▸ na)) (by rw [rpAll_len h1, ra.length]) (fun i x hx => ?_) (by omega) I kp fun H' s' v J k2 => ?_
      · obtain ⟨d', h2, h3⟩ := ra.getV hx
        obtain ⟨t', h4, h5⟩ := rpAll_get h1 h2
        exact ⟨t', h4, fun u ru => rg_d G rfl hN hp _ d' (dpAll_mem (List.mem_of_getElem? h2)) h3 h5 ru⟩
      · exact wpAny_bind (wpAny_isInstance (T := "str") (b := true) rfl isSubtype_str_str (wpAny_pure ⟨_, rfl, done J k2⟩))
end
def dRepr (fn : PF) (f : EF) : EF := fun ρ p => (f ρ p).bind fun x => if isSeq x.1 = true ∧ dpD x.1 ≤ 8 then (rpD fn x.2 x.1).bind fun t => if t.length ≤ 65536 then some (.str t, x.2) else none else none
theorem de_repr {kk : Nat} {fn : PF} {e : Expr} {f : EF} {pp pos : Pos} (G : Rpr X.prog X.w X.K X.mg X.base kk fn) (hgd : X.A.guards = some []) (hr : Room (kk + 10) X.A) (hg : Gl X "repr") (hm : X.mg "repr" = none) (he : DE X m e f)
    (hs : starEach [e] X.env = (false, eval e X.env) :: starEach [] X.env := by rfl) (hpl : (backTo pos (starEach [] X.env)).any (·.1) = false := by rfl) : DE X m' (.Call (.Name "repr" pp) [e] [] pos) (dRepr fn f) := by
  refine PE.weak (pe_callB (cr_repr G hgd hr) hg hm (by rfl) (pa_cons he pa_nil hs) (by decide) (by decide) hs hpl) fun σ H Q ⟨w, ρ, p, ok, d, p', e, q⟩ => ?_
  unfold dRepr at e
  cases e1 : f ρ p with
  | none => rw [e1] at e; cases e
  | some x =>
    obtain ⟨d', p1⟩ := x
    rw [e1] at e
    simp only [Option.bind_some] at e
    split at e
    · rename_i hq
      cases e2 : rpD fn p1 d' with
      | none => rw [e2] at e; cases e
      | some t =>
        rw [e2] at e
        simp only [Option.bind_some] at e
        split at e
        · rename_i hl
          cases e
          refine ⟨w, ρ, p, ok, d', p', e1, fun v H1 k1 r1 => ?_⟩
          have o1 := ok.keep k1
          have ek : (⟨clsOf X, w.k.pa⟩ : Kx) = w.k := by rw [← ok.cls]
          refine ⟨w.k.pa, Md m w ρ σ, p', d', v, t, rfl, o1.pot, fun n => n.nog ok.pgh, by rw [ek]; exact r1, hq.1, hq.2, e2, small_line hl, fun H' k2 => ?_⟩
          rw [ek] at k2
          exact q _ H' (k1.trans k2) (.str t)
        · cases e
    · cases e
end DL
namespace DL
open PySem PySem.Spec PyProof.Rows L2
variable {k : Kx} {N N' : Addr → Prop} {H H' H1 H2 H0 : Hp} {w : Wd} {ρ ρ' : DEnv} {σ σ' : L2.St} {p p' p1 p2 : Pot} {X : Cx} {C : Addr} {m m' : Mo}

/-! ### defs that are called with no repr under way -/
structure FnG (P : Program) (w : World) (K : PySem.W.Frag) (mg : Str → Option Value) (base : Heap) (kk : Nat) (f : Addr) (fd : FuncData) (ps : List Str) (sp : Sp) : Prop where
  len : ∀ vs H Q E, sp vs H Q E → vs.length = ps.length
  run : ∀ (A : Around) (outer : List PySem.Env) (s : Shared) (H : Hp) (args : Args) (us : List Value) (vs : List V) (Q : VK) (E : XK), Room kk A → A.guards = some [] → Env0 P w K mg base A outer s H → BindsTo s fd args (ps.zip us) → Vals vs us → sp vs H Q E →
    codeAny (model P w) A (.call (.ref f) args) (CR CX0 outer P w H s Q E) s
theorem funG {P : Program} {w : World} {K : PySem.W.Frag} {mg : Str → Option Value} {base : Heap} {x qual : Str} {st : Stmt} {f : Addr} {fd : FuncData} {N ps : List Str} {kk : Nat} {sp : Sp} (F : L2.Fun K x qual st f fd) (S : FnScope N ps (defScope st)) (len : ∀ vs H Q E, sp vs H Q E → vs.length = ps.length)
    (hbody : ∀ (cdv : Value) (A : Around) (outer : List PySem.Env) (s : Shared) (H : Hp) (vs : List V) (Q : VK) (E : XK), Room kk (A.deeper (envOfC qual (defScope st) s.heap.objs.size f cdv)) → (A.deeper (envOfC qual (defScope st) s.heap.objs.size f cdv)).guards = some [] → sp vs H Q E →
      ∃ t, PSs (cxOf CX0 P w K mg base N qual (defScope st) f cdv A outer s H E).nox (defBody st) t ∧ t { nx := fun _ H' => Q .non H', rt := Q } (L2.start N vs) H) : FnG P w K mg base (kk + 1) f fd ps sp := by
  obtain ⟨oc, od, kV, doc, pm, an, cdv, ct, osl, rfl, lk, hcd⟩ := F.ex
  refine ⟨len, fun A outer s H args us vs Q E hr hgd e0 hb r hsp => ?_⟩
  have hl := len _ _ _ _ hsp
  have KX : K.In s.heap := e0.mod.kin.keeps fun b o e => (e0.bs b o e).1
  have lim : s.heap.NoLimit := e0.mod.nolimit.keeps fun b o e => (e0.bs b o e).1
  have hkind : ∀ y ∈ ps.zip us, (defScope st).names.lookup y.1 = some .local ∨ ((defScope st).names.lookup y.1 = some .cell ∧ ((cellsFrom (s.heap.objs.size + 1) (defScope st).names []).lookup y.1).isSome = true) := fun ⟨n, v⟩ hy => by
    rcases S.par n (List.of_mem_zip hy).1 with q | q
    · exact .inl q
    · exact .inr ⟨q, PySem.W.cellsFrom_some _ _ _ (.inl q)⟩
  refine codeAny_call_function hr.depth (KX _ _ lk) rfl S.co S.gen rfl (PySem.W.codeRec_of KX hcd) (hb _ _ _ _ ?_)
  refine wpAny_newFunctionEnv_cells S.kind hkind fun env he s1 x => ?_
  subst he
  refine ⟨lim.keeps x.toInCall.keep, codeAny_func ?_⟩
  obtain ⟨t, ht, hq⟩ := hbody cdv A outer s H vs Q E (hr.deeper _) hgd hsp
  have I : Inv (cxOf CX0 P w K mg base N qual (defScope st) f cdv A outer s H E) [] (L2.start N vs) H s1 := inv_start S hr.hd e0 hl r x
  refine wpAny_mono (ht.nox.run [] s1 (L2.start N vs) H _ I hq) (fun fl s' hs => ?_) fun e s' hs => hs
  cases fl with
  | ret u =>
    obtain ⟨v, σ', H', J, rv, q⟩ := hs
    exact ⟨v, H', J.os, J.bare, J.base, J.hok, rv, q⟩
  | next =>
    obtain ⟨σ', H', J, q⟩ := hs
    exact ⟨.non, H', J.os, J.bare, J.base, J.hok, rfl, q⟩
  | brk =>
    obtain ⟨_, _, _, q⟩ := hs
    exact False.elim q
  | cont =>
    obtain ⟨_, _, _, q⟩ := hs
    exact False.elim q
section
variable {kk : Nat} {f : Addr} {fd : FuncData} {ps : List Str} {sp : Sp} {x : Str} {pp pos : Pos} {e : Expr} {es : List Expr} {t : TA}
theorem run_fnG {pins : List (Addr × Obj)} {σ : L2.St} {H : Hp} {s : Shared} {Q : VK} {us : List Value} {vs : List V} (F : FnG X.prog X.w X.K X.mg X.base kk f fd ps sp) (hr : Room kk X.A) (hgd : X.A.guards = some []) (hb : L2.Binds X.K fd ps [])
    (I : Inv X pins σ H s) (r : Vals vs us) (h : sp vs H Q E0) : wpAny (model X.prog X.w) X.A (call (.ref f) us) (EP X pins σ Q) X.xe s := by
  have hl : (us ++ []).length = ps.length := by rw [List.append_nil, ← r.length]; exact F.len _ _ _ _ h
  have hbt := hb s us I.kIn hl
  rw [List.append_nil] at hbt
  refine wpAny_call (codeAny_mono (F.run X.A X.stack s H ⟨us, []⟩ us vs Q E0 hr hgd I.env0 hbt r h) fun r s' hq => ?_)
  cases r with
  | error e => exact False.elim hq
  | ok fl =>
    cases fl with
    | ret u => exact I.after hq
    | next => exact False.elim hq
    | brk => exact False.elim hq
    | cont => exact False.elim hq
theorem pe_callG (F : FnG X.prog X.w X.K X.mg X.base kk f fd ps sp) (hr : Room kk X.A) (hgd : X.A.guards = some []) (hg : Gl X x) (hm : X.mg x = some (.ref f)) (hk : PySem.W.keepIn X.K (.ref f) = true) (hb : L2.Binds X.K fd ps [])
    (ha : PA X (e :: es) t) (hdb : (x == ("__debug__" : Str)) = false := by decide) (he : starEach (e :: es) X.env = (false, eval e X.env) :: starEach es X.env := by rfl) (hpl : (backTo pos (starEach es X.env)).any (·.1) = false := by rfl) :
    PE X (.Call (.Name x pp) (e :: es) [] pos) (tCall sp [] E0 t) := by
  refine ⟨fun pins s σ H Q I h => ?_⟩
  refine wpAny_Call_Name_kw (ld_glob I hg hm ?_ hdb)
  refine PySem.W.callWith_K (h₀ := X.base) I.ok.mod.kin hk (thn (ha.run pos pins s σ H _ I h) fun us s1 ⟨vs, H1, I1, r, q⟩ => ⟨I1.kIn, ?_⟩) he hpl
  have q' : sp (vs ++ []) H1 Q E0 := q
  rw [List.append_nil] at q'
  exact run_fnG F hr hgd hb I1 r q'
end
/-- a def by name that is to be called with no repr under way -/
structure DfnG (P : Program) (w : World) (K : PySem.W.Frag) (mg : Str → Option Value) (base : Heap) (x : Str) (kk : Nat) (ps : List Str) (sp : Sp) : Prop where
  ex : ∃ f fd, FnG P w K mg base kk f fd ps sp ∧ mg x = some (.ref f) ∧ PySem.W.keepIn K (.ref f) = true ∧ L2.Binds K fd ps []
/-- the head, from a promise that asks that no repr is under way -/
theorem law_callG {P : Program} {w : World} {K : PySem.W.Frag} {mg mb : Str → Option Value} {kk : Nat} {fa a : Addr} {fd : FuncData} {x : Str} {sp : Sp} {s₁ : Shared} {vs : List Value} {ns : List Int}
    (KX : K.In s₁.heap) (hns : s₁.heap.Ns mainGlobals mg) (hb : s₁.heap.Ns builtinsNs mb) (hbb : ∀ x : Str, x ≠ "__name__" → mb x = bootBuiltins x) (hlim : s₁.heap.NoLimit) (hg : s₁.gens = #[])
    (ha : s₁.heap.get? a = some { cls := .type "list", data := .seq vs.toArray }) (hi : IntsAre vs ns) (hl : ns.length ≤ sizeLine) (hr : Room kk callerA)
    (F : ∀ base : Heap, K.In base → base.Ns mainGlobals mg → FnG P w K mg base kk fa fd [x] sp) (hbind : ∀ (s : Shared) (u : Value), BindsTo s fd ⟨[u], []⟩ [(x, u)])
    (hsp : ∀ H : Hp, L2.Only H → SqL K H a (ns.map V.int) → sp [.ref a] H (fun v _ => v = .bl true) fun _ _ _ => False) :
    codeAny (model P w) callerA (.call (.ref fa) ⟨[.ref a], []⟩) (fun r s' => r = .ok (.ret (.bool true)) ∧ OldK s₁.heap s'.heap ∧ s'.os = s₁.os ∧ AllBare s'.gens) s₁ := by
  have rv := vals_ints hi
  have core : ∀ H : Hp, L2.Only H → SqL K H a (ns.map V.int) → HOk P w H s₁.heap → (∀ b, H b ≠ none → b = a ∧ K.lookup a = none) →
      codeAny (model P w) callerA (.call (.ref fa) ⟨[.ref a], []⟩) (fun r s' => r = .ok (.ret (.bool true)) ∧ OldK s₁.heap s'.heap ∧ s'.os = s₁.os ∧ AllBare s'.gens) s₁ := by
    intro H hO hS hok hA
    have free : ∀ {b : Addr}, (b = a → K.lookup a = none → False) → H b = none := fun {b} h => by
      cases q : H b with
      | none => rfl
      | some u =>
        obtain ⟨e1, e2⟩ := hA b (by rw [q]; simp)
        exact (h e1 e2).elim
    have nsK : ∀ {b : Addr} {m : Str → Option Value}, s₁.heap.Ns b m → (hidT s₁.heap H).Ns b m := fun {b m} ⟨o, es, ep, e, d, r⟩ =>
      ⟨o, es, ep, hidT_get e (free fun z _ => by
        subst z
        rw [ha] at e
        cases e
        exact absurd d (fun z => nomatch z)), d, r⟩
    have hKb : K.In (hidT s₁.heap H) := fun b o e => hidT_get (KX b o e) (free fun z q => by
      subst z
      rw [q] at e
      cases e)
    have hM : Mod K mg (hidT s₁.heap H) := ⟨hKb, nsK hns, ⟨mb, nsK hb, hbb⟩, let ⟨mc, h1, h2⟩ := hlim; ⟨mc, nsK h1, h2⟩⟩
    have e0 : Env0 P w K mg (hidT s₁.heap H) callerA [] s₁ H := ⟨rfl, hM, fun b o e => of_hidT e, Nat.le_of_eq (hidT_size _ _), trivial, fun b hb => absurd (show b ∈ ([] : List Addr) from hb) (by simp), hok, .of_eq hg⟩
    refine codeAny_mono ((F _ hKb (nsK hns)).run callerA [] s₁ H ⟨[.ref a], []⟩ [.ref a] [.ref a] _ _ hr rfl e0 (hbind s₁ (.ref a)) (.cons rfl .nil) (hsp H hO hS)) fun r s' h => ?_
    cases r with
    | error e => exact False.elim h
    | ok fl =>
      cases fl with
      | next => exact False.elim h
      | brk => exact False.elim h
      | cont => exact False.elim h
      | ret u =>
        obtain ⟨v, H', os, bare, un, hok', r', q⟩ := h
        have q' : v = .bl true := q
        subst q'
        obtain rfl : u = Value.bool true := r'
        refine ⟨rfl, OldK.of_keep fun b o e => ?_, os, bare⟩
        cases q : H b with
        | none => exact un.keep b o e q (by intro z; exact absurd (show b ∈ ([] : List Addr) from z) (by simp)) (by simp)
        | some u =>
          rcases hO b with z | ⟨ob, xs, z⟩
          · rw [q] at z; cases z
          · have e1 := (hok b _ z).1
            rw [e] at e1
            cases e1
            exact (hok' b _ (un.frzs b _ _ z)).1
  cases hk : K.lookup a with
  | some o =>
    have e := KX a o hk
    rw [ha] at e
    cases e
    refine core (fun _ => none) (fun _ => .inl rfl) (.inr ⟨_, vs.toArray, _, hk, rfl, rfl, rfl, by rw [List.size_toArray, hi.length]; exact hl, by simpa using rv⟩) (fun b u z => nomatch z) fun b z => absurd rfl z
  | none =>
    have hin : ∀ b, (if b = a then some (HO.frz { cls := .type "list", data := .seq vs.toArray } (.lst (ns.map V.int))) else none) ≠ none → b = a := fun b z => by
      by_cases hb : b = a
      · exact hb
      · exact absurd (if_neg hb) z
    refine core (fun b => if b = a then some (.frz { cls := .type "list", data := .seq vs.toArray } (.lst (ns.map V.int))) else none) (fun b => ?_) (.inl (.inr ⟨{ cls := .type "list", data := .seq vs.toArray }, if_pos rfl⟩)) (fun b u z => ?_) fun b z => ⟨hin b z, hk⟩
    · by_cases hb : b = a
      · exact .inr ⟨_, _, if_pos hb⟩
      · exact .inl (if_neg hb)
    · have hb := hin b (fun z2 => by rw [show (if b = a then some (HO.frz { cls := .type "list", data := .seq vs.toArray } (.lst (ns.map V.int))) else none) = some u from z] at z2; cases z2)
      have z' := (if_pos hb).symm.trans z
      cases z'
      subst hb
      exact ⟨ha, by rw [List.length_map]; exact hl, vs, _, rv, ha⟩
theorem walk_ofG {l : PySem.W.OpenLaw} {n kk : Nat} {q : Program} {loose : List Str} {XP : (Str → Option Value) → Heap → Prop} {YP : World → Heap → Prop} {d : DefRec} {K : Params → PySem.W.Frag} {sp : World → Sp} {x : Str}
    (hn : l.most = some n) (hn2 : n ≤ sizeLine) (hdf : d.params.defaults = []) (hr : Room kk callerA)
    (hY : ∀ (w : World) (h : Heap), YP w h → (K w.params).In h)
    (F : ∀ (w : World) (mg : Str → Option Value) (fa : Addr) (h : Heap), (K w.params).In h → h.Ns mainGlobals mg → mg d.name = some (.ref fa) →
      ∃ fd : FuncData, (∀ (s : Shared) (u : Value), BindsTo s fd ⟨[u], []⟩ [(x, u)]) ∧
        ∀ base : Heap, (K w.params).In base → base.Ns mainGlobals mg → FnG l.prog w (K w.params) mg base kk fa fd [x] (sp w))
    (hsp : ∀ (w : World) (H : Hp) (a : Addr) (ns : List Int), ns.length ≤ n → L2.Only H → SqL (K w.params) H a (ns.map V.int) → sp w [.ref a] H (fun v _ => v = .bl true) fun _ _ _ => False) :
    PySem.W.WalkO q loose XP YP l.row.toRowW d [] (fun f vs => PySem.call f vs) := by
  refine Att.attach_call hn hdf fun w s₀ s₁ mg mb fa o pm cd doc a vs ns G Y ho hd hcd hmg hobj hints hlen hg => ?_
  have KX := hY w _ Y
  obtain ⟨fd, hb, hF⟩ := F w mg fa _ KX G.T.g hmg
  exact law_callG KX G.T.g G.T.b G.T.builtins G.T.nolimit hg hobj hints (Nat.le_trans hlen hn2) hr hF hb (fun H hO hS => hsp w H a ns hlen hO hS)
end DL
set_option maxHeartbeats 4000000
namespace DL
open PySem PySem.Spec PyProof.Rows L2
/-! ### set(xs), xs a list of ints (the library's rule for a tuple, turned to lists) -/
section
variable {P : Program} {w : World} {A : Around} {E : Value → Shared → Prop} {s : Shared}
theorem set_of_list {l : Addr} {items : Array Value} (ns : List Int) {Q : Value → Shared → Prop} (hh : A.handled = none) (hl : s.heap.IsList l items) (hit : IntsAre items.toList ns) (hb : ns.length + 1 < scanBound)
    (h : ∀ (h' : Heap) (tk c : Nat), SetR w h' s.heap.objs.size (fun j => decide (j ∈ ns)) c → c ≤ ns.length → (∀ b o, s.heap.get? b = some o → h'.get? b = some o) → Q (.ref s.heap.objs.size) { s with heap := h', toks := tk }) :
    wpAny (model P w) A (call (.type "set") [.ref l]) Q E s := by
  have hisz : items.size = ns.length := by
    have q := IntsAre.length hit
    rw [Array.length_toList] at q
    exact q
  obtain ⟨c, tl, hmro⟩ := F.called_set.mro
  have hmade := F.called_set.made
  have hsub := F.called_set.sub
  refine wpAny_call (codeAny_of_tree ?_)
  show wpAny _ _ (callAny (.type "set") _) _ _ _
  refine wpAny_pure ⟨Code.quiet_builtin _ (by decide +kernel), codeAny_builtin F.entry_type_call ?_⟩
  rw [Around.under_plain (weight_type_call_type "set" [.ref l] []) rfl]
  have h1 := F.called_set.notType
  have h2 := F.called_set.canCreate
  have hct := F.typeCall_set_1 (.ref l)
  repeat (any_goals (first | assumption | wp_step))

  refine codeAny_mono (code_set_led1 (.ref l) (E := E) (Q₁ := fun obj s₁ => obj = .ref s.heap.objs.size ∧ s₁ = { s with heap := s.heap.push { cls := .type "set", dict := none, data := .set #[] 0 (.fresh 0 0 (!w.params.followText "set-order")) } }) ⟨rfl, rfl⟩) fun r s₁ hr => ?_
  cases r with
  | error e => exact hr
  | ok fl =>
    cases fl with
    | ret obj =>
      obtain ⟨rfl, rfl⟩ := hr
      have hS : (s.heap.push { cls := .type "set", dict := none, data := .set #[] 0 (.fresh 0 0 (!w.params.followText "set-order")) }).get? s.heap.objs.size = some { cls := .type "set", dict := none, data := .set #[] 0 (.fresh 0 0 (!w.params.followText "set-order")) } := Heap.get?_push_size _ rfl
      have hT : Shared.TypeIs { s with heap := s.heap.push { cls := .type "set", dict := none, data := .set #[] 0 (.fresh 0 0 (!w.params.followText "set-order")) } } (.ref s.heap.objs.size) "set" := ⟨_, hS, rfl⟩
      have hli := F.called_set.init.lookup
      have hbi := F.called_set.init.bind (.ref s.heap.objs.size)
      repeat (any_goals (first | assumption | wp_step))

      refine codeAny_mono (codeAny_call_builtin (R := wants (fun r s₂ => r = .none ∧ ∃ h' tk c, s₂ = { s with heap := h', toks := tk } ∧ SetR w h' s.heap.objs.size (fun j => decide (j ∈ ns)) c ∧ c ≤ ns.length ∧
          (∀ b o, s.heap.get? b = some o → h'.get? b = some o)) E) F.called_set.init.plain F.entry_set_init (check_set_init_1 hT ?_)) fun r₂ s₂ hr₂ => ?_
      · obtain ⟨ol, hol, hcl, nl, hdl⟩ := hl
        obtain ⟨ocls, odict, odata, oslots⟩ := ol
        simp only at hcl hdl
        subst hcl; subst hdl
        have hol' : (s.heap.push { cls := .type "set", dict := none, data := .set #[] 0 (.fresh 0 0 (!w.params.followText "set-order")) }).get? l = some { cls := .type "list", dict := odict, data := .seq items nl, slots := oslots } := Heap.get?_push_of_some _ hol
        have hsls := F.sub_list_set
        have hslf := F.sub_list_frozenset
        have hne : (Value.type "list" == Value.type "dict") = false := by decide
        have hl1 : (s.heap.push { cls := .type "set", dict := none, data := .set #[] 0 (.fresh 0 0 (!w.params.followText "set-order")) }).IsList l items := ⟨_, hol', rfl, nl, rfl⟩
        unfold Builtin.«set.__init__» noKeywords Builtin.Frozenset.updateFrom
        generalize hPI : pyIter = PI
        wp_walk
        subst hPI

        refine wpAny_pyIter_list hl1 ?_
        refine wpAny_bind (wpAny_runValue ?_)
        have hlS : l < s.heap.objs.size := Heap.lt_size hol
        have hh3 : A.in1.in1.in1.handled = none := by simp [hh]
        have hz1 : (s.heap.push { cls := .type "set", dict := none, data := .set #[] 0 (.fresh 0 0 (!w.params.followText "set-order")) }).objs.size = s.heap.objs.size + 1 := Heap.size_push ..
        have hneI : l ≠ (s.heap.push { cls := .type "set", dict := none, data := .set #[] 0 (.fresh 0 0 (!w.params.followText "set-order")) }).objs.size := by
          rw [Heap.size_push]; exact Nat.ne_of_lt (Nat.lt_succ_of_lt hlS)
        have hSf : s.heap.objs.size ∉ [(s.heap.push { cls := .type "set", dict := none, data := .set #[] 0 (.fresh 0 0 (!w.params.followText "set-order")) }).objs.size, l] := by
          rw [Heap.size_push]; simp only [List.mem_cons, List.mem_singleton, List.not_mem_nil, or_false, not_or]
          exact ⟨Nat.ne_of_lt (Nat.lt_succ_self _), Nat.ne_of_gt hlS⟩
        have hval : ∀ (i : Nat) (v : Value), items[i]? = some v → ∃ k t, ns[i]? = some k ∧ v = .int k t := fun i v hv => by
          have hi : i < ns.length := by rw [← hisz]; exact (Array.getElem?_eq_some_iff.mp hv).1
          obtain ⟨t, e⟩ := PyProof.Rows.IntsAre.int_at hit i v (by rw [Array.getElem?_toList]; exact hv)
          refine ⟨ns[i], t, List.getElem?_eq_getElem hi, ?_⟩
          rw [e, List.getD_eq_getElem?_getD, List.getElem?_eq_getElem hi] <;> rfl
        refine set_update_ints ((Walks.list hh3 _ l hneI items).toS) s.heap.objs.size
          hSf ns hisz hb hval (items.size - 0) 0 _ (by omega) (Nat.zero_le _)
          ⟨⟨_, Heap.get?_push_size _ rfl, rfl, rfl⟩, (hl1.push _)⟩ ?hS0 ?hR
        case hS0 =>
          have hget : ((s.heap.push { cls := .type "set", dict := none, data := .set #[] 0 (.fresh 0 0 (!w.params.followText "set-order")) }).push { cls := .type "list_iterator", data := .fields #[.ref l, .int 0 0] }).get? s.heap.objs.size
              = some { cls := .type "set", dict := none, data := .set #[] 0 (.fresh 0 0 (!w.params.followText "set-order")) } := Heap.get?_push_of_some _ hS
          exact ⟨0, Nat.le_refl 0, setR_new_at hget⟩
        case hR =>
          intro s' c' hm hc' hS'
          obtain ⟨h', g2, d', tk', os'⟩ := s'
          have eg : g2 = s.gens := hm.gens
          have ed : d' = s.drawn := hm.drawn
          have eo : os' = s.os := hm.os
          subst eg; subst ed; subst eo
          show wpAny _ _ _ _ _ _
          refine wpAny_pure ?_
          show wpAny _ _ (ret Value.none) _ _ _
          rw [hisz] at hc'
          refine wpAny_pure ⟨rfl, h', tk', c', rfl, hS', hc', fun b o e => ?_⟩
          have hb0 : b < s.heap.objs.size := Heap.lt_size e
          have hb1 : b ≠ s.heap.objs.size := Nat.ne_of_lt hb0
          have hb2 : b ≠ (s.heap.push { cls := .type "set", dict := none, data := .set #[] 0 (.fresh 0 0 (!w.params.followText "set-order")) }).objs.size := by
            rw [Heap.size_push]; exact Nat.ne_of_lt (Nat.lt_succ_of_lt hb0)
          exact hm.heap b o (by simp only [List.mem_cons, List.mem_singleton, List.not_mem_nil, or_false, not_or]; exact ⟨hb1, hb2⟩) (Heap.get?_push_of_some _ (Heap.get?_push_of_some _ e))

      · cases r₂ with
        | error e => exact hr₂
        | ok fl₂ =>
          cases fl₂ with
          | ret r =>
            obtain ⟨rfl, h', tk, c', rfl, hS', hc', hk'⟩ := hr₂
            repeat (any_goals (first | assumption | wp_step))
            exact h _ _ _ hS' hc' hk'
          | _ => exact hr₂.elim
    | _ => exact hr.elim

end
end DL
namespace DL
open PySem PySem.Spec PyProof.Rows L2
variable {k : Kx} {N N' : Addr → Prop} {H H' H1 H2 H0 : Hp} {w : Wd} {ρ ρ' : DEnv} {σ σ' : L2.St} {p p' p1 p2 : Pot} {X : Cx} {C : Addr} {m m' : Mo}

/-! ### sorted(set(xs)), xs a list of ints -/
def rSetL (K : PySem.W.Frag) (w : World) : List V → Hp → VK → Prop := fun vs H Q => ∃ (a : Addr) (ns : List Int), vs = [V.ref a] ∧ SqL K H a (ns.map V.int) ∧ ns.length ≤ 60 ∧
  ∀ (q : Addr) (c : Nat), H q = none → c ≤ ns.length → Q (.ref q) (upd H q (SetO w q (fun j => decide (j ∈ ns)) c))
theorem cr_setL (hc : X.calm = true) : CallR X (.type "set") (rSetL X.K X.w) := by
  intro pins s σ H vs us Q I r ⟨a, ns, e, hs, hl, q⟩
  subst e
  obtain ⟨its, rv, hp, hz⟩ := I.list hs
  rw [Vals.ref1 r]
  have hi : IntsAre its.toArray.toList ns := ints_of_vals rv
  refine set_of_list ns (I.ok.hd hc) hp.isList hi (by unfold scanBound; omega) fun h' tk c R hcn kp => ?_
  exact ⟨.ref _, _, I.laid kp (Nat.le_refl _) (setO_new R), rfl, q _ c I.fresh hcn⟩
/-- the members in their order -/
def insU (x : Int) : List Int → List Int
  | [] => [x]
  | y :: ys => if x < y then x :: y :: ys else if x = y then y :: ys else y :: insU x ys
def sortU (l : List Int) : List Int := l.foldr insU []
theorem insU_mem {x z : Int} : ∀ {l : List Int}, z ∈ insU x l ↔ z = x ∨ z ∈ l
  | [] => by simp [insU]
  | y :: ys => by
    unfold insU
    split
    · simp
    · split
      · rename_i h
        subst h
        simp
      · simp only [List.mem_cons, insU_mem (l := ys)]
        constructor
        · rintro (h | h | h)
          · exact .inr (.inl h)
          · exact .inl h
          · exact .inr (.inr h)
        · rintro (h | h | h)
          · exact .inr (.inl h)
          · exact .inl h
          · exact .inr (.inr h)
theorem insU_asc {x : Int} : ∀ {l : List Int}, l.Pairwise (· < ·) → (insU x l).Pairwise (· < ·)
  | [], _ => by simp [insU]
  | y :: ys, h => by
    obtain ⟨h1, h2⟩ := List.pairwise_cons.mp h
    unfold insU
    split
    · rename_i hx
      refine List.pairwise_cons.mpr ⟨fun z hz => ?_, h⟩
      rcases List.mem_cons.mp hz with rfl | hz
      · exact hx
      · exact Int.lt_trans hx (h1 z hz)
    · split
      · exact h
      · rename_i hn he
        refine List.pairwise_cons.mpr ⟨fun z hz => ?_, insU_asc h2⟩
        rcases insU_mem.mp hz with rfl | hz
        · omega
        · exact h1 z hz
theorem sortU_asc : ∀ l : List Int, (sortU l).Pairwise (· < ·)
  | [] => .nil
  | x :: l => insU_asc (sortU_asc l)
theorem sortU_mem {z : Int} : ∀ {l : List Int}, z ∈ sortU l ↔ z ∈ l
  | [] => by simp [sortU]
  | x :: l => by
    show z ∈ insU x (sortU l) ↔ _
    rw [insU_mem, sortU_mem, List.mem_cons]
/-- rising lists with the same members are one -/
theorem asc_uniq : ∀ {l m : List Int}, l.Pairwise (· < ·) → m.Pairwise (· < ·) → (∀ z, z ∈ l ↔ z ∈ m) → l = m
  | [], [], _, _, _ => rfl
  | [], y :: m, _, _, h => absurd ((h y).mpr List.mem_cons_self) (by simp)
  | x :: l, [], _, _, h => absurd ((h x).mp List.mem_cons_self) (by simp)
  | x :: l, y :: m, hl, hm, h => by
    obtain ⟨l1, l2⟩ := List.pairwise_cons.mp hl
    obtain ⟨m1, m2⟩ := List.pairwise_cons.mp hm
    have hxy : x = y := by
      rcases List.mem_cons.mp ((h x).mp List.mem_cons_self) with e | e
      · exact e
      · rcases List.mem_cons.mp ((h y).mpr List.mem_cons_self) with e' | e'
        · exact e'.symm
        · have a := m1 x e
          have b := l1 y e'
          omega
    subst hxy
    rw [asc_uniq l2 m2 fun z => ?_]
    constructor
    · intro hz
      rcases List.mem_cons.mp ((h z).mp (List.mem_cons_of_mem _ hz)) with e | e
      · have := l1 z hz; omega
      · exact e
    · intro hz
      rcases List.mem_cons.mp ((h z).mpr (List.mem_cons_of_mem _ hz)) with e | e
      · have := m1 z hz; omega
      · exact e
theorem ints_rep : ∀ l : List Int, RepAll k N H (l.map V.int) (l.map D.int)
  | [] => .nil
  | x :: l => .cons (.int x) (ints_rep l)
def lSortSet (h : LF) : LF := fun ρ p => (h ρ p).bind fun x => (intsOf x.1).bind fun ns => if ns.length ≤ 60 then some ((sortU ns).map .int, x.2) else none
theorem dn_sortSet {e : Expr} {h : LF} {sf : Bool} {p1 p2 q1 q2 : Pos} (hc : X.calm = true) (hg1 : Gl X "sorted") (hg2 : Gl X "set") (hm1 : X.mg "sorted" = none) (hm2 : X.mg "set" = none) (he : DSrc X sf m' e h)
    (hs : starEach [e] X.env = (false, eval e X.env) :: starEach [] X.env := by rfl) (hs2 : starEach [.Call (.Name "set" p2) [e] [] q2] X.env = (false, eval (.Call (.Name "set" p2) [e] [] q2) X.env) :: starEach [] X.env := by rfl)
    (hpl : (backTo q2 (starEach [] X.env)).any (·.1) = false := by rfl) (hpl2 : (backTo q1 (starEach [] X.env)).any (·.1) = false := by rfl) :
    DN X m (.Call (.Name "sorted" p1) [.Call (.Name "set" p2) [e] [] q2] [] q1) (lSortSet h) := by
  refine PE.weak (pe_callB (cr_sortedSet hc) hg1 hm1 (by rfl) (pa_cons (pe_callTy (cr_setL hc) hg2 hm2 PyProof.Rows.boot_set (pa_cons he pa_nil hs) (by decide) (by decide) hs hpl) pa_nil hs2) (by decide) (by decide) hs2 hpl2) fun σ H Q ⟨w, ρ, p, ok, ds, p', e, q⟩ => ?_
  unfold lSortSet at e
  cases e1 : h ρ p with
  | none => rw [e1] at e; cases e
  | some x =>
    obtain ⟨l, p1⟩ := x
    rw [e1] at e
    simp only [Option.bind_some] at e
    cases e2 : intsOf l with
    | none => rw [e2] at e; cases e
    | some ns =>
      rw [e2] at e
      simp only [Option.bind_some] at e
      split at e
      · rename_i hl
        cases e
        refine ⟨w, ρ, p, ok, l, _, e1, fun a xs H1 k1 ea g1 o1 r1 => ⟨a, ns, rfl, ?_, hl, fun b c nb hcn => ⟨b, _, c, rfl, upd_same, by omega, fun ms b2 hms hmem hlen nb2 => ?_⟩⟩⟩
        · rw [← repAll_ints r1 e2]; exact SqL.of ea
        · have oks := ok.keep k1
          have hms' : ms = sortU ns := asc_uniq hms (sortU_asc ns) fun z => by rw [hmem z, sortU_mem, decide_eq_true_eq]
          subst hms'
          have n1 : H1 b2 = none := by
            by_cases hb : b2 = b
            · rw [hb]; exact nb
            · rw [upd_ne hb] at nb2; exact nb2
          have k2 := Keep.new (o := SetO X.w b (fun j => decide (j ∈ ns)) c) oks.pot nb
          have k3 : Keep w.k p' (upd H1 b (SetO X.w b (fun j => decide (j ∈ ns)) c)) (upd (upd H1 b (SetO X.w b (fun j => decide (j ∈ ns)) c)) b2 (.lst ((sortU ns).map V.int))) := Keep.new k2.2 nb2
          exact q b2 _ _ ((k1.trans k2).trans k3) (k1.none n1) upd_same (ints_rep _)
      · cases e
/-! ### sorted(xs) of data that can be ordered -/
def sortOk (ks : List PyData) : Bool := ks.all (fun d => ks.all fun d' => PySem.W.alike d d') && ks.all (fun d => match d with | .none => false | .tuple _ => false | _ => true) && ks.all (fun d => decide (d.depth ≤ 40))
def rSortedX (K : PySem.W.Frag) : List V → Hp → VK → Prop := fun vs H Q => ∃ (a : Addr) (bs : List (V × PyData)), vs = [V.ref a] ∧ SqL K H a (bs.map (·.1)) ∧ (∀ b ∈ bs, Dp K H b.1 b.2) ∧ sortOk (bs.map (·.2)) = true ∧
  ∀ q : Addr, H q = none → Q (.ref q) (upd H q (.lst ((bs.mergeSort (PySem.W.dataLe false (·.2))).map (·.1))))
theorem each_vals {bs : List (V × PyData)} : ∀ {us : List Value}, Vals (bs.map (·.1)) us → PySem.W.EachIs (fun u b => RelV b.1 u) us bs := fun {us} => by
  induction bs generalizing us with
  | nil => intro h; cases h; exact .nil
  | cons b bs ih => intro h; cases h with
    | cons r rr => exact .cons r (ih rr)
theorem vals_each {bs : List (V × PyData)} : ∀ {us : List Value}, PySem.W.EachIs (fun u b => RelV b.1 u) us bs → Vals (bs.map (·.1)) us := fun {us} => by
  induction bs generalizing us with
  | nil => intro h; cases h; exact .nil
  | cons b bs ih => intro h; cases h with
    | cons r rr => exact .cons r (ih rr)
theorem each_reads {pins : List (Addr × Obj)} {σ : L2.St} {s : Shared} (I : Inv X pins σ H s) {bs : List (V × PyData)} (hd : ∀ b ∈ bs, Dp X.K H b.1 b.2) : ∀ {us : List Value}, PySem.W.EachIs (fun u b => RelV b.1 u) us bs → PySem.W.EachIs (fun v b => ∃ as, Reads s.heap v b.2 as) us bs := fun {us} => by
  induction bs generalizing us with
  | nil => intro h; cases h; exact .nil
  | cons b bs ih => intro h; cases h with
    | cons r rr => exact .cons (Dp.reads I b.2 b.1 _ (hd b List.mem_cons_self) r) (ih (fun c hc => hd c (List.mem_cons_of_mem _ hc)) rr)
theorem cr_sortedX (hu : X.A.units + 64 < cLine) : CallR X (.builtin "sorted") (rSortedX X.K) := by
  intro pins s σ H vs us Q I r ⟨a, bs, e, hs, hd, hok, q⟩
  subst e
  obtain ⟨its, rv, hp, hz⟩ := I.list hs
  rw [Vals.ref1 r]
  have ev := each_vals rv
  unfold sortOk at hok
  simp only [Bool.and_eq_true, List.all_eq_true, decide_eq_true_eq] at hok
  obtain ⟨⟨h1, h2⟩, h3⟩ := hok
  have hlen : bs.length ≤ sizeLine := by rw [List.length_map] at hz; exact hz
  refine PySem.W.sorted_data (R := fun u b => RelV b.1 u) (enc := (·.2)) (bs := bs) hp.isList ev (each_reads I hd ev) (fun d hd' d' hd'' => h1 d hd' d' hd'') (.inr fun d hd' => ?_) hlen (fun b hb => ?_) fun out ho eo => ?_
  · have := h2 d hd'
    constructor
    · intro z; subst z; cases this
    · intro xs z; subst z; cases this
  · have := h3 b.2 (List.mem_map_of_mem hb)
    omega
  · obtain ⟨ep, he'⟩ := PyProof.Rows.sortedAll_at s.heap its out.toArray
    have hl2 : ((bs.mergeSort (PySem.W.dataLe false (·.2))).map (·.1)).length ≤ sizeLine := by
      rw [List.length_map, List.length_mergeSort]
      exact hlen
    exact ⟨.ref _, upd H (s.heap.objs.size + 1) (.lst ((bs.mergeSort (PySem.W.dataLe false (·.2))).map (·.1))), I.laid (t' := s.toks) (fun _ _ => PyProof.Rows.sortedAll_old) (Nat.le_succ _) ⟨hl2, out, ep, vals_each eo, he'⟩, rfl, q _ (I.hok.fresh (Nat.le_succ _))⟩
/-- the items in the order of their keys -/
noncomputable def sortD (l : List D) (ks : List PyData) : List D := ((l.zip ks).mergeSort (PySem.W.dataLe false (·.2))).map (·.1)
noncomputable def lSorted (h : LF) : LF := fun ρ p => (h ρ p).bind fun x => (toPyAll x.1).bind fun ks => if sortOk ks = true then some (sortD x.1 ks, x.2) else none
theorem toPyAll_len : ∀ {l : List D} {ks : List PyData}, toPyAll l = some ks → ks.length = l.length
  | [], _, h => by cases h; rfl
  | d :: ds, ks, h => by
    unfold toPyAll at h
    cases e1 : toPy d with
    | none => rw [e1] at h; cases h
    | some x =>
      rw [e1] at h
      simp only [Option.bind_some] at h
      cases e2 : toPyAll ds with
      | none => rw [e2] at h; cases h
      | some xs =>
        rw [e2] at h
        cases h
        simp [toPyAll_len e2]
theorem repAll_of_zip {T : List (V × D)} (h : ∀ t ∈ T, Rep k N H t.1 t.2) : RepAll k N H (T.map (·.1)) (T.map (·.2)) := by
  induction T with
  | nil => exact .nil
  | cons t T ih => exact .cons (h t List.mem_cons_self) (ih fun u hu => h u (List.mem_cons_of_mem _ hu))
theorem repAll_zip {xs : List V} : ∀ {l : List D}, RepAll k N H xs l → ∀ t ∈ xs.zip l, Rep k N H t.1 t.2 := fun {l} => by
  induction xs generalizing l with
  | nil => intro h t ht; simp at ht
  | cons x xs ih => intro h t ht; cases h with
    | cons r rr =>
      simp only [List.zip_cons_cons, List.mem_cons] at ht
      rcases ht with rfl | ht
      · exact r
      · exact ih rr t ht
theorem repAll_dpz {K : PySem.W.Frag} {xs : List V} : ∀ {l : List D} {ks : List PyData}, RepAll k N H xs l → toPyAll l = some ks → ∀ b ∈ xs.zip ks, Dp K H b.1 b.2 := fun {l ks} => by
  induction xs generalizing l ks with
  | nil => intro h e b hb; simp at hb
  | cons x xs ih =>
    intro h e b hb
    cases h with
    | cons r rr =>
      unfold toPyAll at e
      cases e1 : toPy _ with
      | none => rw [e1] at e; cases e
      | some y =>
        rw [e1] at e
        simp only [Option.bind_some] at e
        cases e2 : toPyAll _ with
        | none => rw [e2] at e; cases e
        | some ys =>
          rw [e2] at e
          cases e
          simp only [List.zip_cons_cons, List.mem_cons] at hb
          rcases hb with rfl | hb
          · exact rep_dp _ r e1
          · exact ih rr e2 b hb
theorem sort_rep {xs : List V} {l : List D} {ks : List PyData} (r : RepAll k N H xs l) (hk : ks.length = l.length) : RepAll k N H (((xs.zip ks).mergeSort (PySem.W.dataLe false (·.2))).map (·.1)) (sortD l ks) := by
  have hx := r.length
  -- one list of triples
  have t1 : (xs.zip ks) = ((xs.zip l).zip ks).map (fun t => (t.1.1, t.2)) := by
    apply List.ext_getElem
    · simp; omega
    · intro i h1 h2
      simp
  have t2 : (l.zip ks) = ((xs.zip l).zip ks).map (fun t => (t.1.2, t.2)) := by
    apply List.ext_getElem
    · simp; omega
    · intro i h1 h2
      simp
  unfold sortD
  have s1 : (((xs.zip l).zip ks).map (fun t : (V × D) × PyData => (t.1.1, t.2))).mergeSort (PySem.W.dataLe false (·.2)) = (((xs.zip l).zip ks).mergeSort (PySem.W.dataLe false (·.2))).map (fun t => (t.1.1, t.2)) :=
    (List.map_mergeSort (f := fun t : (V × D) × PyData => (t.1.1, t.2)) (r := PySem.W.dataLe false (·.2)) (s := PySem.W.dataLe false (·.2)) (fun a _ b _ => rfl)).symm
  have s2 : (((xs.zip l).zip ks).map (fun t : (V × D) × PyData => (t.1.2, t.2))).mergeSort (PySem.W.dataLe false (·.2)) = (((xs.zip l).zip ks).mergeSort (PySem.W.dataLe false (·.2))).map (fun t => (t.1.2, t.2)) :=
    (List.map_mergeSort (f := fun t : (V × D) × PyData => (t.1.2, t.2)) (r := PySem.W.dataLe false (·.2)) (s := PySem.W.dataLe false (·.2)) (fun a _ b _ => rfl)).symm
  rw [t1, t2, s1, s2, List.map_map, List.map_map]
  have z : ∀ t ∈ ((xs.zip l).zip ks).mergeSort (PySem.W.dataLe false (·.2)), Rep k N H t.1.1 t.1.2 := fun t ht => by
    have h1 := List.mem_mergeSort.mp ht
    exact repAll_zip r t.1 (List.of_mem_zip h1).1
  have := repAll_of_zip (T := (((xs.zip l).zip ks).mergeSort (PySem.W.dataLe false (·.2))).map (·.1)) (k := k) (N := N) (H := H) (fun t ht => by
    obtain ⟨u, hu, rfl⟩ := List.mem_map.mp ht
    exact z u hu)
  rw [List.map_map, List.map_map] at this
  exact this
theorem dn_sorted {e : Expr} {h : LF} {sf : Bool} {pp pos : Pos} (hu : X.A.units + 64 < cLine) (hg : Gl X "sorted") (hm : X.mg "sorted" = none) (he : DSrc X sf m e h)
    (hs : starEach [e] X.env = (false, eval e X.env) :: starEach [] X.env := by rfl) (hpl : (backTo pos (starEach [] X.env)).any (·.1) = false := by rfl) :
    DN X m (.Call (.Name "sorted" pp) [e] [] pos) (lSorted h) := by
  refine PE.weak (pe_callB (cr_sortedX hu) hg hm (by rfl) (pa_cons he pa_nil hs) (by decide) (by decide) hs hpl) fun σ H Q ⟨w, ρ, p, ok, ds, p', e, q⟩ => ?_
  unfold lSorted at e
  cases e1 : h ρ p with
  | none => rw [e1] at e; cases e
  | some x =>
    obtain ⟨l, p1⟩ := x
    rw [e1] at e
    simp only [Option.bind_some] at e
    cases e2 : toPyAll l with
    | none => rw [e2] at e; cases e
    | some ks =>
      rw [e2] at e
      simp only [Option.bind_some] at e
      split at e
      · rename_i hok
        cases e
        have hk := toPyAll_len e2
        refine ⟨w, ρ, p, ok, l, _, e1, fun a xs H1 k1 ea g1 o1 r1 => ?_⟩
        have hx := r1.length
        have m1 : (xs.zip ks).map (·.1) = xs := by rw [List.map_fst_zip]; omega
        have m2 : (xs.zip ks).map (·.2) = ks := by rw [List.map_snd_zip]; omega
        refine ⟨a, xs.zip ks, rfl, by rw [m1]; exact SqL.of ea, repAll_dpz r1 e2, by rw [m2]; exact hok, fun c n => ?_⟩
        exact q c _ _ (k1.trans ((ok.keep k1).kn n)) (k1.none n) upd_same (RepAll.new (sort_rep r1 hk) n)
      · cases e
end DL
namespace DL
open PySem PySem.Spec PyProof.Rows L2
variable {k : Kx} {N N' : Addr → Prop} {H H' H1 H2 H0 : Hp} {w : Wd} {ρ ρ' : DEnv} {σ σ' : L2.St} {p p' p1 p2 : Pot} {X : Cx} {C : Addr} {m m' : Mo}

/-! ### != of two Ratios: object's, by the own == -/
structure Neo (P : Program) (w : World) (K : PySem.W.Frag) (mg : Str → Option Value) (base : Heap) (kk : Nat) (fn : PF) : Prop where
  eq : Eqo P w K mg base kk fn
  ne : PySem.W.findIn K (.ref (clsM mg)) "__ne__" = some (some (.builtin "object.__ne__"))
  mro : PySem.W.mroIn K (clsM mg) (.type "object") = some true
theorem callAt_two {kk : Nat} {f : Addr} {fd : FuncData} {sp : Sp} {A : Around} {pins : List (Addr × Obj)} {σ : L2.St} {H : Hp} {s : Shared} {Q : VK} {x y : V} {u v : Value} (F : FnOk X.prog X.w X.K X.mg X.base CX0 kk f fd ["self", "other"] sp) (hr : Room kk A) (hfr : A.frames = X.A.frames)
    (hb : L2.Binds X.K fd ["self", "other"] []) (I : Inv X pins σ H s) (rx : RelV x u) (ry : RelV y v) (h : sp [x, y] H Q E0) {E : Value → Shared → Prop} : wpAny (model X.prog X.w) A (call (.ref f) [u, v]) (EP X pins σ Q) E s := call_two F hr hfr hb I rx ry h
theorem objNe {kk : Nat} {fn : PF} (B : Neo X.prog X.w X.K X.mg X.base kk fn) {A : Around} (hr : Room kk A) (hfr : A.frames = X.A.frames) {pins : List (Addr × Obj)} {σ : L2.St} {H : Hp} {s : Shared} {a b dx : Addr} {fs : List (Str × V)} {Q : Fin → Shared → Prop} {E : Value → Shared → Prop} (I : Inv X pins σ H s)
    (ha : H a = some (.ins (clsOf X) dx fs)) {Qv : VK} (hsp : spD (clsOf X) false fn [.ref a, .ref b] H Qv E0) (hq : ∀ v H' s', Inv X pins σ H' s' → Qv v H' → ∃ r, v = .bl r ∧ Q (.done (.ret (.bool (!r)))) s') :
    wpAny (model X.prog X.w) A (Builtin.«object.__ne__» ⟨[.ref a, .ref b], []⟩) Q E s := by
  obtain ⟨g, fd, F, hb, hs, hf⟩ := B.eq.ex
  obtain ⟨mA, J, _⟩ := ins_get I.hok ha
  obtain ⟨od, J, _⟩ := J.look
  have hc : wpAny (model X.prog X.w) A (call (.ref g) [.ref a, .ref b]) (fun v s' => ∃ r, v = .bool r ∧ Q (.done (.ret (.bool (!r)))) s') E s :=
    wpAny_mono (call_two F hr hfr hb I (x := V.ref a) (y := V.ref b) rfl rfl hsp) (fun v s' hv => by
      obtain ⟨z, H', I', rz, q'⟩ := hv
      obtain ⟨r, rfl, q2⟩ := hq z H' s' I' q'
      obtain rfl : v = .bool r := rz
      exact ⟨r, rfl, q2⟩) fun _ _ z => z
  unfold Builtin.«object.__ne__»
  repeat (first
    | with_reducible refine wpAny_cRoomFor hr.units0 ?_
    | (refine wpAny_bind (m := callSpecialIfBound? (.ref a) (Str.ofString "__eq__") [.ref b])
        (PySem.W.ifBound_K I.kIn J hs hf (wpAny_mono hc (fun r s' hr => by
          obtain ⟨b, rfl, hq⟩ := hr
          repeat (first | exact hq | exact wpAny_pure hq | exact wpAny_truthy_bool hq | (refine wpAny_bind (m := truthy (.bool _)) (wpAny_truthy_bool ?_)) | wp_step)) fun _ _ e => e)))
    | wp_step)
def rNeo (C : Addr) (fn : PF) : R2 := fun x y H Q => (∃ a dx fs, x = .ref a ∧ H a = some (.ins C dx fs)) ∧ (∃ b dy gs, y = .ref b ∧ H b = some (.ins C dy gs)) ∧ spD C false fn [x, y] H (fun v H' => ∃ r, v = .bl r ∧ Q (.bl (!r)) H') E0
theorem op_neo {kk : Nat} {fn : PF} (B : Neo X.prog X.w X.K X.mg X.base kk fn) (hr : Room (kk + 1) X.A) : OpR X (compareOp .NotEq) (rNeo (clsOf X) fn) := by
  intro pins s σ H x y u v Q I rx ry h
  obtain ⟨⟨a, dx, fs, rfl, ha⟩, ⟨b, dy, gs, rfl, hb'⟩, hsp⟩ := h
  cases rx
  cases ry
  obtain ⟨mA, J, _⟩ := ins_get I.hok ha
  obtain ⟨od, J, _⟩ := J.look
  obtain ⟨mB, J', _⟩ := ins_get I.hok hb'
  obtain ⟨od', J', _⟩ := J'.look
  show wpAny _ _ (richCompare .NotEq (.ref a) (.ref b)) _ _ _
  have one : wpAny (model X.prog X.w) X.A (tryCompare (.ref a) "__ne__" (.ref b)) (fun r s' => ∃ z, r = some (.bool z) ∧ EP X pins σ Q (.bool z) s') X.xe s := by
    unfold tryCompare
    have fin : wpAny (model X.prog X.w) X.A (call (.builtin "object.__ne__") [.ref a, .ref b]) (fun v s' => ∃ z, v = .bool z ∧ EP X pins σ Q (.bool z) s') X.xe s :=
      wpAny_call (codeAny_call_builtin F.cmp_object.ne.plain F.cmpEntry_ne (PySem.W.check_slot F.cmpKind_ne F.cmpSplit_ne (J.type.andThen (PySem.W.looks_mroIn I.kIn B.mro)) (F.cmpArgs_ne _ _)
        (objNe B (A := X.A.in1) hr.in1 rfl I ha hsp fun v H' s' I' q' => by
          obtain ⟨r, rfl, q2⟩ := q'
          exact ⟨r, rfl, ⟨!r, rfl, .bl (!r), H', I', rfl, q2⟩⟩)))
    refine wpAny_bind (m := callSpecialIfBound? (.ref a) (Str.ofString "__ne__") [.ref b]) ?_
    simp only [callSpecialIfBound?, bindSpecialIfBound?]
    refine wpAny_holding (wpAny_bind (wpAny_bind (wpAny_bind (J.type.here ((PySem.W.looks_findIn I.kIn B.ne).here ?_)))))
    refine wpAny_bind (wpAny_askSetting (wpAny_ite ?_))
    have fin2 : wpAny (model X.prog X.w) X.A (call (.builtin "object.__ne__") ([.ref a] ++ [.ref b]) >>= fun v => pure (some v)) (fun r s' => wpAny (model X.prog X.w) X.A (match r with
      | some .notImplemented => pure none
      | none => pure none
      | some v => pure (some v)) (fun r s' => ∃ z, r = some (.bool z) ∧ EP X pins σ Q (.bool z) s') X.xe s') X.xe s := by
      refine wpAny_bind (wpAny_mono fin (fun v s' hv => wpAny_pure ?_) fun _ _ h' => h')
      obtain ⟨z, rfl, hq⟩ := hv
      exact wpAny_pure ⟨z, rfl, hq⟩
    split
    · exact wpAny_bind (wpAny_of_eq (F.cmp_object.ne.bind _) (wpAny_pure (by exact fin2)))
    · exact wpAny_tryCatch (wpAny_bind (wpAny_of_eq (F.cmp_object.ne.bind _) (wpAny_pure (by exact fin2))))
  unfold richCompare
  simp only [oneThing_ref]
  refine wpAny_holding (wpAny_bind (wpAny_cRoomFor hr.units0 ?_))
  rw [cmpInfo_NotEq]
  dsimp only
  refine wpAny_bind (J.type.here (wpAny_bind (J'.type.here ?_)))
  rw [show (Value.ref (clsOf X) != Value.ref (clsOf X)) = false from by simp]
  simp only [Bool.false_eq_true, if_false]
  refine wpAny_bind (wpAny_pure ?_)
  simp only [Bool.false_eq_true, if_false]
  refine wpAny_bind (wpAny_mono one (fun v s' hv => ?_) fun _ _ e => e)
  obtain ⟨b, rfl, hq⟩ := hv
  first | exact wpAny_pure hq | exact wpAny_pure (wpAny_pure hq)
def dNeo (fn : PF) (fa fb : EF) : EF := fun ρ p => (fa ρ p).bind fun x => (fb ρ x.2).bind fun y => if isR x.1 = true ∧ isR y.1 = true then (fn [x.1, y.1] y.2).bind fun z => match z.1 with
    | .bl r => some (.bl (!r), z.2)
    | _ => none
  else none
theorem neo_go {fn : PF} {fa fb : EF} {σ : L2.St} {H : Hp} {Q : VK} (h : tD C m (dNeo fn fa fb) σ H Q) : tD C m' fa σ H fun x H1 => tD C m' fb σ H1 fun y H2 => rNeo C fn x y H2 Q := by
  obtain ⟨w, ρ, p, ok, d, p', e, q⟩ := h
  unfold dNeo at e
  cases e1 : fa ρ p with
  | none => rw [e1] at e; cases e
  | some x =>
    obtain ⟨a, p1⟩ := x
    rw [e1] at e
    simp only [Option.bind_some] at e
    cases e2 : fb ρ p1 with
    | none => rw [e2] at e; cases e
    | some y =>
      obtain ⟨b, p2⟩ := y
      rw [e2] at e
      simp only [Option.bind_some] at e
      split at e
      · rename_i hR
        obtain ⟨hR1, hR2⟩ := hR
        cases e3 : fn [a, b] p2 with
        | none => rw [e3] at e; cases e
        | some z =>
          obtain ⟨z1, p3⟩ := z
          rw [e3] at e
          simp only [Option.bind_some] at e
          cases z1 <;> first | cases e | skip
          rename_i r
          refine ⟨w, ρ, p, ok, a, p1, e1, fun v H1 k1 r1 => ⟨w, ρ, p1, ok.keep k1, b, p2, e2, fun u H2 k2 r2 => ?_⟩⟩
          have o1 := ok.keep k1
          have o2 := o1.keep k2
          have ra := r1.on o1 k2
          have ek : (⟨C, w.k.pa⟩ : Kx) = w.k := by rw [← ok.cls]
          refine ⟨?_, ?_, ?_⟩
          · cases a <;> first | cases hR1 | skip
            cases ra with
            | rat n1 e3 =>
              rw [ok.cls] at e3
              exact ⟨_, _, _, rfl, e3⟩
          · cases b <;> first | cases hR2 | skip
            cases r2 with
            | rat n1 e3 =>
              rw [ok.cls] at e3
              exact ⟨_, _, _, rfl, e3⟩
          · refine ⟨w.k.pa, Md m' w ρ σ, p2, [a, b], .bl r, _, o2.pot, fun n => n.nog ok.pgh, ?_, e3, fun v H3 k3 r3 => ?_⟩
            · rw [ek]; exact .cons ra (.cons r2 .nil)
            · rw [ek] at k3 r3
              cases r3
              exact ⟨r, rfl, q _ H3 ((k1.trans k2).trans k3) (.bl _)⟩
      · cases e
theorem de_neo {kk : Nat} {fn : PF} {a b : Expr} {fa fb : EF} {pos : Pos} (B : Neo X.prog X.w X.K X.mg X.base kk fn) (hr : Room (kk + 1) X.A) (ha : DE X m' a fa) (hb : DE X m' b fb) : DE X m (.Compare a [.NotEq] [b] pos) (dNeo fn fa fb) :=
  PE.weak (pe_cmpR (op_neo B hr) ha hb (nomark _)) fun _ _ _ h => neo_go h
theorem dt_neo {kk : Nat} {fn : PF} {a b : Expr} {fa fb : EF} {pos : Pos} (B : Neo X.prog X.w X.K X.mg X.base kk fn) (hr : Room (kk + 1) X.A) (ha : DE X m' a fa) (hb : DE X m' b fb) : DT X (.Compare a [.NotEq] [b] pos) (bOf (dNeo fn fa fb)) :=
  PT.weak (pt_cmpR (op_neo B hr) ha hb (nomark _)) fun _ _ _ h => neo_go (bOf_go (m := .al) h)
/-! ### l.index(i), ints -/
def ixOf (i : Int) : List Int → Option Nat
  | [] => none
  | x :: xs => if x = i then some 0 else (ixOf i xs).map (· + 1)
theorem ixOf_some {i : Int} : ∀ {l : List Int} {j : Nat}, ixOf i l = some j → l[j]? = some i ∧ ∀ n x, n < j → l[n]? = some x → x ≠ i
  | [], j, h => by cases h
  | y :: l, j, h => by
    unfold ixOf at h
    split at h
    · rename_i he
      cases h
      subst he
      exact ⟨rfl, fun n x hn => absurd hn (Nat.not_lt_zero _)⟩
    · rename_i hne
      cases e : ixOf i l with
      | none => rw [e] at h; cases h
      | some j' =>
        rw [e] at h
        cases h
        obtain ⟨h1, h2⟩ := ixOf_some e
        refine ⟨by simpa using h1, fun n x hn hx => ?_⟩
        cases n with
        | zero => simp at hx; subst hx; exact hne
        | succ n => exact h2 n x (Nat.lt_of_succ_lt_succ hn) (by simpa using hx)
def dIndex (f : LF) (g : EF) : EF := fun ρ p => (f ρ p).bind fun x => (intsOf x.1).bind fun ns => (g ρ x.2).bind fun y => match y.1 with
  | .int i => (ixOf i ns).map fun j => (.int j, y.2)
  | _ => none
theorem de_index {sf : Bool} {o e : Expr} {f : LF} {g : EF} {apos cpos : Pos} (ho : DSrc X sf m o f) (he : DE X m e g) (hst : starEach [e] X.env = (false, eval e X.env) :: starEach [] X.env := by rfl)
    (hbase : attributeBase o "index" X.env (eval o X.env) = eval o X.env := by rfl) (hfew : ((backTo cpos (starEach [e] X.env)).all (fun x => !x.1) && (backToKw cpos (keywordEach [] X.env)).all (fun x => x.1.isSome) && decide ([e].length + ([] : List Keyword).length + (if ([] : List Keyword).isEmpty then 0 else 1) < 30)) = true := by rfl)
    (hline : (apos.endLine == cpos.line) = true := by rfl) (hplain : (backTo cpos (starEach [] X.env)).any (·.1) = false := by rfl) :
    DE X m' (.Call (.Attribute o "index" apos) [e] [] cpos) (dIndex f g) := by
  refine PE.weak (pe_bm PySem.F.plainAttrs_list PySem.F.slot_list_index PySem.F.type_list_index mt_index ho (pa_cons he pa_nil hst) hbase hfew hline hst hplain) fun σ H Q ⟨w, ρ, p, ok, d, p', e, q⟩ => ?_
  unfold dIndex at e
  cases e1 : f ρ p with
  | none => rw [e1] at e; cases e
  | some x =>
    obtain ⟨l, p1⟩ := x
    rw [e1] at e
    simp only [Option.bind_some] at e
    cases e2 : intsOf l with
    | none => rw [e2] at e; cases e
    | some ns =>
      rw [e2] at e
      simp only [Option.bind_some] at e
      cases e3 : g ρ p1 with
      | none => rw [e3] at e; cases e
      | some y =>
        obtain ⟨dy, p2⟩ := y
        rw [e3] at e
        simp only [Option.bind_some] at e
        cases dy <;> first | cases e | skip
        rename_i i
        dsimp only at e
        cases e4 : ixOf i ns with
        | none => rw [e4] at e; cases e
        | some j =>
          rw [e4] at e
          cases e
          obtain ⟨h1, h2⟩ := ixOf_some e4
          refine ⟨w, ρ, p, ok, l, p1, e1, fun a xs H1 k1 ea g1 o1 r1 => ?_⟩
          have oks := ok.keep k1
          refine ⟨.inl ⟨rfl, _, SqL.of ea⟩, w, ρ, p1, oks, .int i, _, e3, fun v H2 k2 r2 => ?_⟩
          cases r2
          have hx := repAll_ints r1 e2
          have ea2 : H2 a = some (.lst xs) := k2.1 a _ (ok.nopot g1) ea
          refine ⟨a, xs, .int i, j, .int i, rfl, rfl, SqL.of ea2, rfl, ?_, ?_, ?_, fun n z' hn hz => ?_, q _ H2 (k1.trans k2) (.int _)⟩
          · rw [hx, List.all_map]
            exact List.all_eq_true.mpr fun _ _ => rfl
          · rw [hx, List.getElem?_map, h1]; rfl
          · simp [eqV]
          · rw [hx, List.getElem?_map] at hz
            cases e5 : ns[n]? with
            | none => rw [e5] at hz; cases hz
            | some y =>
              rw [e5] at hz
              cases hz
              have := h2 n y hn e5
              simp [eqV, this]
/-! ### f-strings -/
/-- the parts: texts, ints -/
def txtOf : D → Option Str
  | .str y => some y
  | .int i => if i.natAbs.log2 < 1920 then some (toString i) else none
  | _ => none
def dJs : List EF → Str → DEnv → Pot → Option (Str × Pot)
  | [], acc, _, p => some (acc, p)
  | f :: fs, acc, ρ, p => (f ρ p).bind fun x => (txtOf x.1).bind fun y => if (acc ++ y).length ≤ 65536 then dJs fs (acc ++ y) ρ x.2 else none
def tDJ (C : Addr) (fs : List EF) (acc : Str) : L2.St → Hp → (Str → Hp → Prop) → Prop := fun σ H Q => ∃ w ρ p, Ok C w ρ p σ H ∧ ∃ out p', dJs fs acc ρ p = some (out, p') ∧ ∀ H', Keep w.k p' H H' → Q out H'
def DJ (X : Cx) (es : List Expr) (fs : List EF) : Prop := ∃ ts, PJ X es ts ∧ ∀ acc σ H Q, tDJ (clsOf X) fs acc σ H Q → tJs ts acc σ H Q
theorem dj_nil : DJ X [] [] := ⟨[], .nil, fun acc σ H Q ⟨w, ρ, p, ok, out, p', e, q⟩ => by
  cases e
  exact q H ok.kr⟩
theorem txt_len {a b : Str} (h : (a ++ b).length ≤ 65536) : b.length ≤ sizeLine ∧ (a ++ b).length ≤ sizeLine := by
  have := small_line h
  rw [strLen_append] at this
  refine ⟨by omega, small_line h⟩
theorem dj_go {fs : List EF} {f : EF} {ts : List TE} {t : TE} (ht : ∀ σ H (Q : VK), tD (clsOf X) m f σ H (fun x H1 => (∃ y : Str, x = .str y ∧ y.length ≤ sizeLine ∧ Q (.str y) H1) ∨ ∃ i : Int, x = .int i ∧ i.natAbs.log2 < 1920 ∧ Q (.str (toString i)) H1) → t σ H Q)
    (ih : ∀ acc σ H Q, tDJ (clsOf X) fs acc σ H Q → tJs ts acc σ H Q) (acc : Str) (σ : L2.St) (H : Hp) (Q : Str → Hp → Prop) (h : tDJ (clsOf X) (f :: fs) acc σ H Q) : tJs (t :: ts) acc σ H Q := by
  obtain ⟨w, ρ, p, ok, out, p', e, q⟩ := h
  unfold dJs at e
  cases e1 : f ρ p with
  | none => rw [e1] at e; cases e
  | some x =>
    obtain ⟨d, p1⟩ := x
    rw [e1] at e
    simp only [Option.bind_some] at e
    cases e2 : txtOf d with
    | none => rw [e2] at e; cases e
    | some y =>
      rw [e2] at e
      simp only [Option.bind_some] at e
      split at e
      · rename_i hl
        refine ht _ _ _ ⟨w, ρ, p, ok, d, p1, e1, fun v H1 k1 r1 => ?_⟩
        have go : ∃ y' : Str, V.str y = .str y' ∧ (acc ++ y').length ≤ sizeLine ∧ tJs ts (acc ++ y') σ H1 Q := ⟨y, rfl, (txt_len hl).2, ih _ _ _ _ ⟨w, ρ, p1, ok.keep k1, out, p', e, fun H2 k2 => q H2 (k1.trans k2)⟩⟩
        cases d <;> first | (cases e2; done) | skip
        · rename_i i
          cases r1
          simp only [txtOf] at e2
          split at e2
          · rename_i hi
            cases e2
            exact .inr ⟨i, rfl, hi, go⟩
          · cases e2
        · cases r1
          cases e2
          exact .inl ⟨_, rfl, (txt_len hl).1, go⟩
      · cases e
theorem dj_fmt {e : Expr} {es : List Expr} {f : EF} {fs : List EF} {pos : Pos} (he : DE X m e f) (r : DJ X es fs) : DJ X (.FormattedValue e (-1) none pos :: es) (f :: fs) := by
  obtain ⟨ts, h1, h2⟩ := r
  exact ⟨_, .cons (pe_fmt he) h1, dj_go (m := m) (fun σ H Q h => h) h2⟩
theorem dj_con {e : Expr} {es : List Expr} {f : EF} {fs : List EF} (he : DE X m e f) (hs : ∀ ρ p x, f ρ p = some x → ∃ y, x.1 = .str y) (r : DJ X es fs) : DJ X (e :: es) (f :: fs) := by
  obtain ⟨ts, h1, h2⟩ := r
  refine ⟨_, .cons he h1, dj_go (m := m) (t := tD (clsOf X) m f) (fun σ H Q ⟨w, ρ, p, ok, d, p', e, q⟩ => ⟨w, ρ, p, ok, d, p', e, fun v H' k r => ?_⟩) h2⟩
  obtain ⟨y, hy⟩ := hs ρ p _ e
  dsimp only at hy
  subst hy
  cases r
  rcases q _ H' k (.str y) with ⟨y', h1, _, h3⟩ | ⟨i, h1, _⟩
  · cases h1; exact h3
  · cases h1
def dJoin (fs : List EF) : EF := fun ρ p => (dJs fs Str.empty ρ p).map fun x => (.str x.1, x.2)
theorem de_join {v1 v2 : Expr} {rest : List Expr} {fs : List EF} {pos : Pos} (h : DJ X (v1 :: v2 :: rest) fs) : DE X m (.JoinedStr (v1 :: v2 :: rest) pos) (dJoin fs) := by
  obtain ⟨ts, h1, h2⟩ := h
  refine PE.weak (pe_joined h1) fun σ H Q ⟨w, ρ, p, ok, d, p', e, q⟩ => ?_
  unfold dJoin at e
  cases e1 : dJs fs Str.empty ρ p with
  | none => rw [e1] at e; cases e
  | some x =>
    rw [e1] at e
    cases e
    exact h2 _ _ _ _ ⟨w, ρ, p, ok, x.1, x.2, e1, fun H' k => q _ H' k (.str _)⟩
/-- f'{e}' -/
def dTxt (f : EF) : EF := fun ρ p => (f ρ p).bind fun x => (txtOf x.1).bind fun y => if y.length ≤ 65536 then some (.str y, x.2) else none
theorem de_join1 {e : Expr} {f : EF} {pos ps : Pos} (he : DE X m e f) : DE X m' (.JoinedStr [.FormattedValue e (-1) none ps] pos) (dTxt f) := by
  refine PE.weak (pe_joined1 (pe_fmt he)) fun σ H Q ⟨w, ρ, p, ok, d, p', e, q⟩ => ?_
  unfold dTxt at e
  cases e1 : f ρ p with
  | none => rw [e1] at e; cases e
  | some x =>
    obtain ⟨d1, p1⟩ := x
    rw [e1] at e
    simp only [Option.bind_some] at e
    cases e2 : txtOf d1 with
    | none => rw [e2] at e; cases e
    | some y =>
      rw [e2] at e
      simp only [Option.bind_some] at e
      split at e
      · rename_i hl
        cases e
        refine ⟨w, ρ, p, ok, d1, _, e1, fun v H1 k1 r1 => ?_⟩
        cases d1 <;> first | (cases e2; done) | skip
        · rename_i i
          cases r1
          simp only [txtOf] at e2
          split at e2
          · rename_i hi
            cases e2
            exact .inr ⟨i, rfl, hi, q _ H1 k1 (.str _)⟩
          · cases e2
        · cases r1
          cases e2
          exact .inl ⟨_, rfl, small_line hl, q _ H1 k1 (.str _)⟩
      · cases e
/-! ### calls with keywords alone -/
structure DfnK (P : Program) (w : World) (K : PySem.W.Frag) (mg : Str → Option Value) (base : Heap) (x : Str) (kk : Nat) (ps ks : List Str) (gD : List D → List D → List D) (fr : Bool) (fn : PF) : Prop where
  ex : ∃ f fd g gV, FnOk P w K mg base CX0 kk f fd ps (spD (clsM mg) fr fn) ∧ mg x = some (.ref f) ∧ PySem.W.keepIn K (.ref f) = true ∧ KBinds K fd ps ks g gV ∧ ∀ (k : Kx) (N : Addr → Prop) (H : Hp) vs zs ds es, RepAll k N H vs ds → RepAll k N H zs es → RepAll k N H (gV vs zs) (gD ds es)
end DL
namespace DL
open PySem PySem.Spec PyProof.Rows L2
variable {k : Kx} {N N' : Addr → Prop} {H H' H1 H2 H0 : Hp} {w : Wd} {ρ ρ' : DEnv} {σ σ' : L2.St} {p p' p1 p2 : Pot} {X : Cx} {C : Addr} {m m' : Mo}

/-! ### calls with keywords -/
/-- n positional values, j keywords' values, in the parameters' order -/
def permG {α : Type} (n j : Nat) (ix : List Nat) (us ws : List α) : List α := if us.length = n ∧ ws.length = j then ix.filterMap fun i => (us ++ ws)[i]? else []
theorem vals_get {vs : List V} {us : List Value} (r : Vals vs us) : ∀ ix : List Nat, Vals (ix.filterMap fun i => vs[i]?) (ix.filterMap fun i => us[i]?)
  | [] => .nil
  | i :: ix => by
    have hl := r.length
    rw [List.filterMap_cons, List.filterMap_cons]
    cases e : vs[i]? with
    | none =>
      have : us[i]? = none := by
        rw [List.getElem?_eq_none_iff] at e ⊢
        omega
      rw [this]
      exact vals_get r ix
    | some v =>
      obtain ⟨u, h1, h2⟩ := r.get e
      rw [h1]
      exact .cons h2 (vals_get r ix)
theorem rep_get {vs : List V} {ds : List D} (r : RepAll k N H vs ds) : ∀ ix : List Nat, RepAll k N H (ix.filterMap fun i => vs[i]?) (ix.filterMap fun i => ds[i]?)
  | [] => .nil
  | i :: ix => by
    have hl := r.length
    rw [List.filterMap_cons, List.filterMap_cons]
    cases e : vs[i]? with
    | none =>
      have : ds[i]? = none := by
        rw [List.getElem?_eq_none_iff] at e ⊢
        omega
      rw [this]
      exact rep_get r ix
    | some v =>
      obtain ⟨u, h1, h2⟩ := r.getV e
      rw [h1]
      exact .cons h2 (rep_get r ix)
theorem permG_vals {n j : Nat} {ix : List Nat} {vs zs : List V} {us ws : List Value} (r : Vals vs us) (q : Vals zs ws) : Vals (permG n j ix vs zs) (permG n j ix us ws) := by
  unfold permG
  rw [r.length, q.length]
  split
  · exact vals_get (r.append q) ix
  · exact .nil
theorem permG_rep {n j : Nat} {ix : List Nat} {vs zs : List V} {ds es : List D} (r : RepAll k N H vs ds) (q : RepAll k N H zs es) : RepAll k N H (permG n j ix vs zs) (permG n j ix ds es) := by
  unfold permG
  rw [r.length, q.length]
  split
  · exact rep_get (r.append q) ix
  · exact .nil
theorem kbinds {K : PySem.W.Frag} {x qual : Str} {st : Stmt} {f : Addr} {fd : FuncData} {ps ks : List Str} {n j : Nat} {ix : List Nat} (F : L2.Fun K x qual st f fd) (hps : ps ≠ [])
    (h : ∀ (kV doc pm : Value) (an : Option Addr) (cdv ct : Value) (us ws : List Value), us.length = n → ws.length = j → bindArgs (PySem.W.fnOf x qual (defArgs st) (defBody st) (defScope st) .none kV doc pm an cdv ct) ⟨us, ks.zip ws⟩ = pure (ps.zip (permG n j ix us ws))) : KBinds K fd ps ks (permG n j ix) (permG n j ix) := by
  obtain ⟨oc, od, kV, doc, pm, an, cdv, ct, osl, rfl, lk, hcd⟩ := F.ex
  refine ⟨fun s us ws _ hl => ?_, fun r q => permG_vals r q⟩
  by_cases hh : us.length = n ∧ ws.length = j
  · exact .of_eq (h kV doc pm an cdv ct us ws hh.1 hh.2)
  · unfold permG at hl
    rw [if_neg hh] at hl
    cases ps with
    | nil => exact absurd rfl hps
    | cons _ _ => cases hl
/-- a def that may be called so -/
structure DfnW (P : Program) (w : World) (K : PySem.W.Frag) (mg : Str → Option Value) (base : Heap) (x : Str) (kk : Nat) (ps ks : List Str) (n j : Nat) (ix : List Nat) (fr : Bool) (fn : PF) : Prop where
  ex : ∃ f fd, FnOk P w K mg base CX0 kk f fd ps (spD (clsM mg) fr fn) ∧ mg x = some (.ref f) ∧ PySem.W.keepIn K (.ref f) = true ∧ KBinds K fd ps ks (permG n j ix) (permG n j ix)
theorem dfnW {P : Program} {w : World} {K : PySem.W.Frag} {mg : Str → Option Value} {base : Heap} {x : Str} {st : Stmt} {N ps ks : List Str} {n j : Nat} {ix : List Nat} {kk : Nat} {fr : Bool} {g : SF} (F : Stands K mg x st) (S : FnScope N ps (defScope st)) (hps : ps.length ≤ N.length) (hps2 : ps ≠ [])
    (hb : ∀ (kV doc pm : Value) (an : Option Addr) (cdv ct : Value) (us ws : List Value), us.length = n → ws.length = j → bindArgs (PySem.W.fnOf x x (defArgs st) (defBody st) (defScope st) .none kV doc pm an cdv ct) ⟨us, ks.zip ws⟩ = pure (ps.zip (permG n j ix us ws)))
    (hbody : ∀ (f : Addr) (cdv : Value) (A : Around) (outer : List PySem.Env) (s : Shared) (H : Hp) (E : XK), Room kk (A.deeper (envOfC x (defScope st) s.heap.objs.size f cdv)) →
      DSs (cxOf CX0 P w K mg base N x (defScope st) f cdv A outer s H E).nox (defBody st) g) : DfnW P w K mg base x (kk + 1) ps ks n j ix fr (defD ps.length N fr g) := by
  obtain ⟨f, fd, F, hm⟩ := F
  exact ⟨f, fd, dok F S hps (hbody f), hm, F.kp, kbinds F hps2 hb⟩
def DK (X : Cx) (m : Mo) (kws : List Keyword) (f : AF) : Prop := PK X kws (tDA (clsOf X) m f)
theorem PK.weak {e : List Keyword} {t t' : TA} (h : PK X e t) (i : ∀ σ H Q, t' σ H Q → t σ H Q) : PK X e t' := ⟨fun wh pins s σ H Q I q => h.run wh pins s σ H Q I (i _ _ _ q)⟩
theorem dk_nil : DK X m [] dNil := PK.weak pk_nil fun σ H Q ⟨w, ρ, p, ok, ds, p', e, q⟩ => by
  cases e
  exact q [] H (Keep.refl ok) .nil
theorem dk_cons {nm : Option Str} {kpos : Pos} {e : Expr} {es : List Keyword} {f : EF} {g : AF} (h : DE X m e f) (hr : DK X m es g) : DK X m (⟨nm, e, kpos⟩ :: es) (dCons f g) := by
  refine PK.weak (pk_cons h hr) fun σ H Q ⟨w, ρ, p, ok, ds, p', e, q⟩ => ?_
  unfold dCons at e
  cases e1 : f ρ p with
  | none => rw [e1] at e; cases e
  | some x =>
    obtain ⟨d, p1⟩ := x
    rw [e1] at e
    simp only [Option.bind_some] at e
    cases e2 : g ρ p1 with
    | none => rw [e2] at e; cases e
    | some y =>
      obtain ⟨r, p2⟩ := y
      rw [e2] at e
      simp only [Option.map_some] at e
      cases e
      refine ⟨w, ρ, p, ok, d, p1, e1, fun v H1 k1 r1 => ⟨w, ρ, p1, ok.keep k1, r, p', e2, fun vs H2 k2 r2 => ?_⟩⟩
      exact q _ H2 (k1.trans k2) (.cons (r1.on (ok.keep k1) k2) r2)
def dKw (fn : PF) (n j : Nat) (ix : List Nat) (ga gk : AF) : EF := fun ρ p => (ga ρ p).bind fun x => (gk ρ x.2).bind fun y => fn (permG n j ix x.1 y.1) y.2
theorem kw_go {fr : Bool} {fn : PF} {n j : Nat} {ix : List Nat} {ga gk : AF} {σ : L2.St} {H : Hp} {Q : VK} {E : XK} (h : tD C (if fr = true then .al else m) (dKw fn n j ix ga gk) σ H Q) :
    tDA C m ga σ H fun vs H1 => tDA C m gk σ H1 fun zs H2 => spD C fr fn (permG n j ix vs zs) H2 Q E := by
  obtain ⟨w, ρ, p, ok, d, p', e, q⟩ := h
  unfold dKw at e
  cases e1 : ga ρ p with
  | none => rw [e1] at e; cases e
  | some x =>
    obtain ⟨ds, p1⟩ := x
    rw [e1] at e
    simp only [Option.bind_some] at e
    cases e2 : gk ρ p1 with
    | none => rw [e2] at e; cases e
    | some y =>
      obtain ⟨es, p2⟩ := y
      rw [e2] at e
      simp only [Option.bind_some] at e
      refine ⟨w, ρ, p, ok, ds, p1, e1, fun vs H1 k1 r1 => ⟨w, ρ, p1, ok.keep k1, es, p2, e2, fun zs H2 k2 r2 => ?_⟩⟩
      have o1 := ok.keep k1
      have o2 := o1.keep k2
      have ek : (⟨C, w.k.pa⟩ : Kx) = w.k := by rw [← ok.cls]
      refine ⟨w.k.pa, Md m w ρ σ, p2, permG n j ix ds es, d, p', o2.pot, fun n => n.nog ok.pgh, ?_, e, fun v H3 k3 r3 => ?_⟩
      · rw [ek]; exact permG_rep (r1.on o1 k2) r2
      · rw [ek] at k3 r3
        refine q v H3 ((k1.trans k2).trans k3) (r3.weak fun a n => ?_)
        rcases n with ⟨hf, n⟩ | n | ⟨dx, fs, n⟩
        · subst hf; exact n
        · exact Md.al (o2.new n)
        · exact Md.al (o2.ins n)
theorem bind_nil {α β : Type} {e : α} {s : α} (h : α → β) : h e = h e := rfl
section
variable {x : Str} {kk : Nat} {ps ks : List Str} {n j : Nat} {ix : List Nat} {fr : Bool} {fn : PF} {e : Expr} {es : List Expr} {kws : List Keyword} {ga gk : AF} {pp pos : Pos}
/-- f(k = v, ..) -/
theorem de_kw0 (G : DfnW X.prog X.w X.K X.mg X.base x kk ps ks 0 j ix fr fn) (hr : Room kk X.A) (hg : Gl X x) (hk2 : DK X m kws gk) (hall : (backToKw pos (keywordEach kws X.env)).all (·.1.isSome) = true := by rfl) (hks : (backToKw pos (keywordEach kws X.env)).filterMap (·.1) = ks := by rfl)
    (hdb : (x == ("__debug__" : Str)) = false := by decide) (hpl : ((backTo pos (starEach [] X.env)).any (·.1) || (backToKw pos (keywordEach kws X.env)).any (·.1.isNone)) = false := by rfl) :
    DE X (if fr = true then .al else m) (.Call (.Name x pp) [] kws pos) (dKw fn 0 j ix dNil gk) := by
  obtain ⟨f, fd, F, hm, hk, hb⟩ := G.ex
  refine ⟨fun pins s σ H Q I h => ?_⟩
  obtain ⟨w, ρ, p, ok, ds, p1, e1, q⟩ := kw_go (E := E0) h
  cases e1
  have q0 := q [] H ok.kr .nil
  refine wpAny_Call_Name_kw (ld_glob I hg hm ?_ hdb)
  refine PySem.W.callWith_KW0 (h₀ := X.base) I.ok.mod.kin hk hall ?_ hpl
  refine thn (hk2.run pos pins s σ H _ I q0) fun ws s2 ⟨zs, H2, I2, rz, q2⟩ => ⟨I2.kIn, ?_⟩
  rw [hks]
  exact run_fnk F hr hb pass0 I2 .nil rz q2
/-- f(v, .., k = v, ..) -/
theorem de_kw (G : DfnW X.prog X.w X.K X.mg X.base x kk ps ks n j ix fr fn) (hr : Room kk X.A) (hg : Gl X x) (ha : DA X m (e :: es) ga) (hk2 : DK X m kws gk) (hall : (backToKw pos (keywordEach kws X.env)).all (·.1.isSome) = true := by rfl) (hks : (backToKw pos (keywordEach kws X.env)).filterMap (·.1) = ks := by rfl)
    (hdb : (x == ("__debug__" : Str)) = false := by decide) (he : starEach (e :: es) X.env = (false, eval e X.env) :: starEach es X.env := by rfl)
    (hpl : ((backTo pos (starEach (e :: es) X.env)).any (·.1) || (backToKw pos (keywordEach kws X.env)).any (·.1.isNone)) = false := by rfl) :
    DE X (if fr = true then .al else m) (.Call (.Name x pp) (e :: es) kws pos) (dKw fn n j ix ga gk) := by
  obtain ⟨f, fd, F, hm, hk, hb⟩ := G.ex
  exact PE.weak (pe_callK F hr hg hm hk hb pass0 ha hk2 hall hks hdb he hpl) fun σ H Q h => kw_go h
end
end DL
namespace DL
open PySem PySem.Spec PyProof.Rows L2
variable {X : Cx} {K : PySem.W.Frag} {C : Addr} {m m' : Mo}
/-- statements that are never reached -/
theorem dss_never {ss : List Stmt} : DSs X ss dFail := ⟨fun pins s σ H D I ⟨w, ρ, p, ok, fl, ρ', p', e, q⟩ => by cases e⟩
/-- an expression that is never reached -/
theorem de_never {e : Expr} : DE X m e (fun _ _ => none) := ⟨fun pins s σ H Q I ⟨w, ρ, p, ok, d, p', e, q⟩ => by cases e⟩
/-! ### what the head tells of the class Ratio -/
/-- a method's function -/
structure MSt (K : PySem.W.Frag) (C : Addr) (x qual : Str) (st : Stmt) (g : Addr) (fd : FuncData) : Prop where
  fn : L2.Fun K x qual st g fd
  at_ : PySem.W.findIn K (.ref C) x = some (some (.ref g))
  is : PySem.W.isFn K (.ref g) = true
section
variable {P : Program} {w : World} {mg : Str → Option Value} {base : Heap} {x qual : Str} {st : Stmt} {g : Addr} {fd : FuncData} {kk : Nat} {fn : PF} {ps : List Str}
theorem mk_mth (S : MSt K (clsM mg) x qual st g fd) (F : FnOk P w K mg base CX0 kk g fd ps (spD (clsM mg) false fn) ∧ L2.Binds K fd ps []) : Mth P w K mg base x kk ps fn := ⟨g, fd, ⟨S.at_, S.is, S.fn.kp⟩, F.1, F.2⟩
theorem mk_eqo (S : MSt K (clsM mg) "__eq__" qual st g fd) (F : FnOk P w K mg base CX0 kk g fd ["self", "other"] (spD (clsM mg) false fn) ∧ L2.Binds K fd ["self", "other"] []) : Eqo P w K mg base kk fn := ⟨g, fd, F.1, F.2, S.at_, S.is⟩
theorem mk_rpr (S : MSt K (clsM mg) "__repr__" qual st g fd) (F : FnOk P w K mg base CX0 kk g fd ["self"] (spD (clsM mg) false fn) ∧ L2.Binds K fd ["self"] []) : Rpr P w K mg base kk fn := ⟨g, fd, F.1, F.2, S.at_, S.is⟩
theorem mk_neo (E : Eqo P w K mg base kk fn) (ne : PySem.W.findIn K (.ref (clsM mg)) "__ne__" = some (some (.builtin "object.__ne__"))) (R : RatF K (clsM mg)) : Neo P w K mg base kk fn := ⟨E, ne, R.cm⟩
theorem mk_prp {q : Addr} (Pr : PropOf K (clsM mg) x q g) (F : FnOk P w K mg base CX0 kk g fd ["self"] (spD (clsM mg) false fn) ∧ L2.Binds K fd ["self"] []) : Prp P w K mg base x kk fn := ⟨q, g, fd, Pr, F.1, F.2⟩
/-- what the head tells of an operator -/
structure OpSt (K : PySem.W.Frag) (C : Addr) (op : Operator) (qual : Str) (x : Str) (st : Stmt) (g : Addr) (fd : FuncData) (rc : Option Value) : Prop where
  fn : L2.Fun K x qual st g fd
  at_ : PySem.W.findIn K (.ref C) (PySem.dunder op.info.2) = some (some (.ref g))
  is : PySem.W.isFn K (.ref g) = true
  sf : PySem.W.selfFirst K C = true
  rd : PySem.W.findIn K (.ref C) (dunderR op.info.2) = some rc
  rn : rc = none ∨ ∃ g : Addr, rc = some (.ref g)
  io : ∃ fo, PySem.W.findIn K (.type "int") (PySem.dunder op.info.2) = some fo
  ir : ∃ ro, PySem.W.findIn K (.type "int") (dunderR op.info.2) = some ro
  sub : PySem.W.subIn K (.type "int") (.ref C) = some false
theorem mk_bop {op : Operator} {rc : Option Value} (S : OpSt K (clsM mg) op qual x st g fd rc) (F : FnOk P w K mg base CX0 kk g fd ["self", "other"] (spD (clsM mg) false fn) ∧ L2.Binds K fd ["self", "other"] []) : Bop P w K mg base op kk fn := by
  obtain ⟨fo, h1⟩ := S.io
  obtain ⟨ro, h2⟩ := S.ir
  exact ⟨g, fd, F.1, F.2, S.at_, S.is, S.sf, rc, fo, ro, S.rd, S.rn, h1, h2, S.sub⟩
end

/-! ### a, b, c = x, y, z with three plain locals -/
variable {w : Wd} {ρ ρ' : DEnv} {σ σ' : L2.St} {p p' p1 p2 : Pot} {H H' : Hp}
def dPar3 (i j l : Nat) (f g h : EF) : SF := fun ρ p => (f ρ p).bind fun x => (g ρ x.2).bind fun y => (h ρ y.2).map fun z => (.nx, ((ρ.set i (.sh x.1)).set j (.sh y.1)).set l (.sh z.1), z.2)
theorem ds_par3 {i j l : Nat} {x y z : Str} {a b c : Expr} {px py pz pt pos : Pos} {kt k2 pt2} {f g h : EF} (hc : X.calm = true) (hN : X.N.Nodup) (hi : X.N[i]? = some x) (hj : X.N[j]? = some y) (hl : X.N[l]? = some z) (hij : i ≠ j) (hil : i ≠ l) (hjl : j ≠ l)
    (hx : X.env.scope.names.lookup x = some .local) (hy : X.env.scope.names.lookup y = some .local) (hz : X.env.scope.names.lookup z = some .local) (ha : DE X .al a f) (hb : DE X .al b g) (hcc : DE X .al c h)
    (hw : swappedStores [.Tuple [.Name x px, .Name y py, .Name z pz] kt pt] (.Tuple [a, b, c] k2 pt2) X.env = pure (some [x, y, z]))
    (hs : swapsWithSole [.Tuple [.Name x px, .Name y py, .Name z pz] kt pt] (.Tuple [a, b, c] k2 pt2) pos.line X.env = pure false := by rfl)
    (h1 : starEach [a, b, c] X.env = (false, eval a X.env) :: starEach [b, c] X.env := by rfl) (h2 : starEach [b, c] X.env = (false, eval b X.env) :: starEach [c] X.env := by rfl) (h3 : starEach [c] X.env = (false, eval c X.env) :: starEach [] X.env := by rfl) :
    DS X (.Assign [.Tuple [.Name x px, .Name y py, .Name z pz] kt pt] (.Tuple [a, b, c] k2 pt2) pos) (dPar3 i j l f g h) := by
  refine PS.weak (ps_par3 hc hN hi hj hl hij hil hjl hx hy hz (pa_cons ha (pa_cons hb (pa_cons hcc pa_nil h3) h2) h1) hw hs) fun D σ H ⟨w, ρ, p, ok, fl, ρ', p', e, q⟩ => ?_
  unfold dPar3 at e
  cases e1 : f ρ p with
  | none => rw [e1] at e; cases e
  | some x =>
    obtain ⟨d, p1⟩ := x
    rw [e1] at e
    simp only [Option.bind_some] at e
    cases e2 : g ρ p1 with
    | none => rw [e2] at e; cases e
    | some y =>
      obtain ⟨d2, p2⟩ := y
      rw [e2] at e
      simp only [Option.bind_some] at e
      cases e3 : h ρ p2 with
      | none => rw [e3] at e; cases e
      | some z =>
        obtain ⟨d3, p3⟩ := z
        rw [e3] at e
        cases e
        refine ⟨w, ρ, p, ok, d, p1, e1, fun v1 H1 k1 r1 => ⟨w, ρ, p1, ok.keep k1, d2, p2, e2, fun v2 H2 k2 r2 => ⟨w, ρ, p2, (ok.keep k1).keep k2, d3, p3, e3, fun v3 H3 k3 r3 => ⟨v1, v2, v3, rfl, ?_⟩⟩⟩⟩
        have o1 := ok.keep k1
        have o2 := o1.keep k2
        have o3 := o2.keep k3
        have q1 := (r1.on o1 k2).on o2 k3
        have q2 := r2.on o2 k3
        have s1 := o3.setSh' (i := i) q1
        have s2 := s1.setSh' (i := j) (q2.weak fun a n => al_set (fun l z => by cases z) n)
        have s3 := s2.setSh' (i := l) ((r3.weak fun a n => al_set (fun l z => by cases z) n).weak fun a n => al_set (fun l z => by cases z) n)
        exact q _ H3 s3

/-! ### a list or a tuple that is walked -/
def lSeq (f : EF) : LF := fun ρ p => (f ρ p).bind fun x => match x.1 with
  | .lst l => some (l, x.2)
  | .tup l => some (l, x.2)
  | _ => none
theorem di_seq {sf : Bool} {m : Mo} {tg e : Expr} {f : EF} (he : DE X m e f) (hs : sf = true → m.slot = true := by intro _; rfl) : DI X sf m tg e (lSeq f) := by
  refine ⟨fun pins s σ H R I ⟨w, ρ, p, ok, ds, p', eh, q⟩ => ?_⟩
  unfold lSeq at eh
  cases e1 : f ρ p with
  | none => rw [e1] at eh; cases eh
  | some x =>
    obtain ⟨d, p1⟩ := x
    rw [e1] at eh
    simp only [Option.bind_some] at eh
    cases d <;> first | (cases eh; done) | skip
    · rename_i l
      cases eh
      have h1 : lOf f ρ p = some (ds, p') := by unfold lOf; rw [e1]; rfl
      exact (di_list (sf := sf) (dsrc he hs) hs).run pins s σ H R I ⟨w, ρ, p, ok, ds, p', h1, q⟩
    · rename_i l
      cases eh
      have h1 : tOfD f ρ p = some (ds, p') := by unfold tOfD; rw [e1]; rfl
      exact (di_tup (sf := sf) he hs).run pins s σ H R I ⟨w, ρ, p, ok, ds, p', h1, q⟩

/-! ### a Ratio, a flat datum may stand anywhere -/
def dRatF (f : EF) : EF := fun ρ p => (f ρ p).bind fun x => if isR x.1 = true ∨ x.1.flat = true then some x else none
theorem ratF_rep {d : D} {v : V} (o1 : Ok C w ρ p σ H) (hh : isR d = true ∨ d.flat = true) (r1 : Rep w.k (Md m w ρ σ) H v d) : Rep w.k (Md m' w ρ σ) H v d := by
  rcases hh with hR | hF
  · cases d <;> first | (cases hR; done) | skip
    cases r1 with
    | rat n1 e2 =>
      have e3 := e2
      rw [o1.cls] at e3
      exact .rat (Md.al (o1.ins e3)) e2
  · exact r1.flat hF
theorem de_ratF {e : Expr} {f : EF} (he : DE X m e f) : DE X m' e (dRatF f) := by
  refine PE.weak he fun σ H Q ⟨w, ρ, p, ok, d, p', e, q⟩ => ?_
  unfold dRatF at e
  cases e1 : f ρ p with
  | none => rw [e1] at e; cases e
  | some x =>
    obtain ⟨d1, p1⟩ := x
    rw [e1] at e
    simp only [Option.bind_some] at e
    split at e
    · rename_i hh
      cases e
      exact ⟨w, ρ, p, ok, _, _, e1, fun v H1 k1 r1 => q v H1 k1 (ratF_rep (ok.keep k1) hh r1)⟩
    · cases e
end DL
namespace DL
open PySem PySem.Spec PyProof.Rows L2
/-! ### evaluation -/
section
variable {ρ ρ' : DEnv} {p p' : Pot} {f g h : EF} {a b : AF} {s t : SF} {c c' : BF} {l l' : LF}
@[simp] theorem ev_seq : dSeq s t ρ p = (s ρ p).bind fun x => match x.1 with
  | .nx => t x.2.1 x.2.2
  | _ => some x := by unfold dSeq; rfl
@[simp] theorem ev_next : dNext ρ p = some (.nx, ρ, p) := rfl
@[simp] theorem ev_ret : dRet f ρ p = (f ρ p).map fun x => (.rt x.1, ρ, x.2) := rfl
@[simp] theorem ev_fail : dFail ρ p = none := rfl
@[simp] theorem ev_cont : dCont ρ p = some (.ct, ρ, p) := rfl
@[simp] theorem ev_ite : dIte c s t ρ p = (c ρ p).bind fun x => if x.1 = true then s ρ x.2 else t ρ x.2 := rfl
@[simp] theorem ev_asg {tg : TgF} : dAsg f tg ρ p = (f ρ p).bind fun x => (tg ρ x.1).map fun r => (.nx, r, x.2) := rfl
@[simp] theorem ev_own {i : Nat} : dOwn l i ρ p = (l ρ p).map fun x => (.nx, ρ.set i (.ow x.1), x.2) := rfl
@[simp] theorem ev_drop : dDrop f ρ p = (f ρ p).map fun x => (.nx, ρ, x.2) := rfl
@[simp] theorem ev_par {i j : Nat} : dPar i j f g ρ p = (f ρ p).bind fun x => (g ρ x.2).map fun y => (.nx, (ρ.set i (.sh x.1)).set j (.sh y.1), y.2) := rfl
@[simp] theorem ev_par3 {i j k : Nat} : dPar3 i j k f g h ρ p = (f ρ p).bind fun x => (g ρ x.2).bind fun y => (h ρ y.2).map fun z => (.nx, ((ρ.set i (.sh x.1)).set j (.sh y.1)).set k (.sh z.1), z.2) := rfl
@[simp] theorem ev_parO {i j : Nat} : dParO i j f l ρ p = (f ρ p).bind fun x => (l ρ x.2).map fun y => (.nx, (ρ.set i (.sh x.1)).set j (.ow y.1), y.2) := rfl
@[simp] theorem ev_parOS {i j : Nat} : dParOS i j l f ρ p = (l ρ p).bind fun x => (f ρ x.2).map fun y => (.nx, (ρ.set i (.ow x.1)).set j (.sh y.1), y.2) := rfl
@[simp] theorem ev_parOO {i j : Nat} : dParOO i j l l' ρ p = (l ρ p).bind fun x => (l' ρ x.2).map fun y => (.nx, (ρ.set i (.ow x.1)).set j (.ow y.1), y.2) := rfl
@[simp] theorem ev_for {tg : TgF} : dFor l tg s ρ p = (l ρ p).bind fun x => dForL tg s x.1 ρ x.2 := rfl
@[simp] theorem ev_var {i : Nat} : dVar i ρ p = match ρ[i]? with
  | some (.sh d) => some (d, p)
  | _ => none := rfl
@[simp] theorem ev_varB {i : Nat} : dVarB i ρ p = match ρ[i]? with
  | some (.sh d) => some (d, p)
  | some (.ro d) => some (d, p)
  | some (.ow l) => some (.lst l, p)
  | _ => none := rfl
@[simp] theorem ev_lown {i : Nat} : lOwn i ρ p = match ρ[i]? with
  | some (.ow l) => some (l, p)
  | _ => none := by unfold lOwn; rfl
@[simp] theorem ev_K {d : D} : dK d ρ p = some (d, p) := rfl
@[simp] theorem ev_flat : dFlat f ρ p = (f ρ p).bind fun x => if x.1.flat = true then some x else none := rfl
@[simp] theorem ev_nil : dNil ρ p = some ([], p) := rfl
@[simp] theorem ev_cons : dCons f a ρ p = (f ρ p).bind fun x => (a ρ x.2).map fun y => (x.1 :: y.1, y.2) := rfl
@[simp] theorem ev_bin {o : G2} : dBin o f g ρ p = (f ρ p).bind fun x => (g ρ x.2).bind fun y => (o x.1 y.1).map fun d => (d, y.2) := rfl
@[simp] theorem ev_bOf : bOf f ρ p = (f ρ p).bind fun x => match x.1 with
  | .bl b => some (b, x.2)
  | _ => none := rfl
@[simp] theorem ev_bAnd : bAnd c c' ρ p = (c ρ p).bind fun x => if x.1 = true then c' ρ x.2 else some (false, x.2) := rfl
@[simp] theorem ev_bOr : bOr c c' ρ p = (c ρ p).bind fun x => if x.1 = true then some (true, x.2) else c' ρ x.2 := rfl
@[simp] theorem ev_bNot : bNot c ρ p = (c ρ p).map fun x => (!x.1, x.2) := rfl
@[simp] theorem ev_bTrue : bTrue ρ p = some (true, p) := rfl
@[simp] theorem ev_and : dAnd f g ρ p = (bOf f ρ p).bind fun x => if x.1 = true then g ρ x.2 else some (.bl false, x.2) := rfl
@[simp] theorem ev_or : dOr f g ρ p = (bOf f ρ p).bind fun x => if x.1 = true then some (.bl true, x.2) else g ρ x.2 := rfl
@[simp] theorem ev_not : dNot f ρ p = (bOf f ρ p).map fun x => (.bl (!x.1), x.2) := rfl
@[simp] theorem ev_if : dIf c f g ρ p = (c ρ p).bind fun x => if x.1 = true then f ρ x.2 else g ρ x.2 := rfl
@[simp] theorem ev_chain {o o' : G2} : dChain o o' f g h ρ p = (f ρ p).bind fun x => (g ρ x.2).bind fun y => (o x.1 y.1).bind fun z => match z with
  | .bl true => (h ρ y.2).bind fun u => (o' y.1 u.1).map fun d => (d, u.2)
  | .bl false => some (.bl false, y.2)
  | _ => none := by unfold dChain; rfl
@[simp] theorem ev_lst : dLst a ρ p = (a ρ p).bind fun x => if x.1.length ≤ 65536 then some (.lst x.1, x.2) else none := rfl
@[simp] theorem ev_tup : dTup a ρ p = (a ρ p).bind fun x => if x.1.length ≤ 65536 then some (.tup x.1, x.2) else none := rfl
@[simp] theorem ev_app {o : GA} : dApp o a ρ p = (a ρ p).bind fun x => (o x.1).map fun d => (d, x.2) := rfl
@[simp] theorem ev_call {fn : PF} : dCall fn a ρ p = (a ρ p).bind fun x => fn x.1 x.2 := rfl
@[simp] theorem ev_kw {fn : PF} {n j : Nat} {ix : List Nat} : dKw fn n j ix a b ρ p = (a ρ p).bind fun x => (b ρ x.2).bind fun y => fn (permG n j ix x.1 y.1) y.2 := rfl
@[simp] theorem ev_neg : dNeg f ρ p = (f ρ p).bind fun x => match x.1 with
  | .int i => some (.int (-i), x.2)
  | _ => none := rfl
@[simp] theorem ev_fld {r : RF} : dFld r f ρ p = (f ρ p).bind fun x => (r.get x.1).map fun d => (d, x.2) := rfl
@[simp] theorem ev_prop {fn : PF} : dProp fn f ρ p = (f ρ p).bind fun x => if isR x.1 = true then fn [x.1] x.2 else none := rfl
@[simp] theorem ev_meth {fn : PF} : dMeth fn f a ρ p = (f ρ p).bind fun x => if isR x.1 = true then (a ρ x.2).bind fun y => fn (x.1 :: y.1) y.2 else none := rfl
@[simp] theorem ev_bop {fn : PF} : dBop fn f g ρ p = (f ρ p).bind fun x => (g ρ x.2).bind fun y => if isR x.1 = true ∧ ratInt y.1 = true then fn [x.1, y.1] y.2 else none := rfl
@[simp] theorem ev_eqo {fn : PF} : dEqo fn f g ρ p = (f ρ p).bind fun x => (g ρ x.2).bind fun y => if isR x.1 = true ∧ isR y.1 = true then fn [x.1, y.1] y.2 else none := rfl
@[simp] theorem ev_isRat : dIsRat f ρ p = (f ρ p).bind fun x => (isRat x.1).map fun b => (.bl b, x.2) := rfl
@[simp] theorem ev_eL : eL l ρ p = (l ρ p).map fun x => (.lst x.1, x.2) := rfl
@[simp] theorem ev_lLst : lLst a ρ p = (a ρ p).bind fun x => if x.1.length ≤ 65536 then some x else none := rfl
@[simp] theorem ev_lOf : lOf f ρ p = (f ρ p).bind fun x => match x.1 with
  | .lst l => some (l, x.2)
  | _ => none := rfl
@[simp] theorem ev_tOf : tOfD f ρ p = (f ρ p).bind fun x => match x.1 with
  | .tup l => some (l, x.2)
  | _ => none := by unfold tOfD; rfl
@[simp] theorem ev_lCat : lCat l l' ρ p = (l ρ p).bind fun x => (l' ρ x.2).bind fun y => if x.1.length + y.1.length ≤ 65536 then some (x.1 ++ y.1, y.2) else none := rfl
@[simp] theorem ev_lSl {lo hi : PFo} : lSl l lo hi ρ p = (l ρ p).bind fun x => (lo ρ x.2).bind fun y => (hi ρ y.2).map fun z => (cutD x.1 y.1 z.1, z.2) := rfl
@[simp] theorem ev_oNone : oNone ρ p = some (none, p) := rfl
@[simp] theorem ev_oSome : oSome f ρ p = (f ρ p).bind fun x => match x.1 with
  | .int i => some (some i, x.2)
  | _ => none := rfl
@[simp] theorem ev_lList : lList f ρ p = (f ρ p).bind fun x => match x.1 with
  | .lst l => some (l, x.2)
  | .tup l => some (l, x.2)
  | _ => none := rfl
@[simp] theorem ev_ixL : dIxL l g ρ p = (l ρ p).bind fun x => (g ρ x.2).bind fun y => match y.1 with
  | .int i => (atI x.1 i).map fun d => (d, y.2)
  | _ => none := rfl
@[simp] theorem ev_lenL : dLenL l ρ p = (l ρ p).map fun x => (.int x.1.length, x.2) := rfl
@[simp] theorem ev_range1 : lRange1 a ρ p = (a ρ p).bind fun x => match x.1 with
  | [.int n] => if -65536 < n ∧ n < 65536 then some (dInts 0 n.toNat, x.2) else none
  | _ => none := rfl
@[simp] theorem ev_enum : lEnum l ρ p = (l ρ p).map fun x => (x.1.zipIdx.map fun y => D.tup [.int (y.2 : Nat), y.1], x.2) := rfl
@[simp] theorem ev_zip : lZip l l' ρ p = (l ρ p).bind fun x => (l' ρ x.2).map fun y => ((x.1.zip y.1).map fun z => D.tup [z.1, z.2], y.2) := rfl
@[simp] theorem ev_comp {vs : List Nat} {tg : TgF} : lComp vs l tg c f ρ p = if noOw ρ vs = true then (l ρ p).bind fun x => (dCompL tg c f x.1 (wipeD ρ vs) x.2).bind fun y => if y.1.length ≤ 65536 then some y else none else none := rfl
@[simp] theorem ev_tgName {m : Mo} {i : Nat} {d : D} : tgName m i ρ d = some (ρ.set i (slotOf m d)) := rfl
@[simp] theorem ev_slot {d : D} : slotOf .al d = .sh d := rfl
@[simp] theorem ev_tgTup {m : Mo} {is : List Nat} {ds : List D} : tgTup m is ρ (.tup ds) = bindAll m is ds ρ := rfl
@[simp] theorem ev_b0 {m : Mo} : bindAll m [] [] ρ = some ρ := rfl
@[simp] theorem ev_b1 {m : Mo} {i : Nat} {is : List Nat} {d : D} {ds : List D} : bindAll m (i :: is) (d :: ds) ρ = bindAll m is ds (ρ.set i (slotOf m d)) := rfl
@[simp] theorem ev_app_ {i : Nat} : dAppend i f ρ p = match ρ[i]? with
  | some (.ow l) => if l.length < 65536 then (f ρ p).map fun x => (.nx, ρ.set i (.ow (l ++ [x.1])), x.2) else none
  | _ => none := rfl
@[simp] theorem ev_ext {i : Nat} : dExtend i l ρ p = match ρ[i]? with
  | some (.ow m) => (l ρ p).bind fun x => if m.length + x.1.length ≤ 65536 then some (.nx, ρ.set i (.ow (m ++ x.1)), x.2) else none
  | _ => none := rfl
@[simp] theorem ev_rel {i : Nat} : rel i ρ = match ρ[i]? with
  | some (.ow l) => ρ.set i (.sh (.lst l))
  | _ => ρ := rfl
@[simp] theorem ev_def {n : Nat} {N : List Str} {fr : Bool} {ds : List D} : defD n N fr s ds p = if ds.length = n then (s (startD N fr ds) p).bind fun x => match x.1 with
  | .rt d => some (d, x.2.2)
  | .nx => some (.non, x.2.2)
  | _ => none else none := rfl
@[simp] theorem wipe0 : wipeD ρ [] = ρ := rfl
@[simp] theorem wipe1 {v : Nat} {vs : List Nat} : wipeD ρ (v :: vs) = (wipeD ρ vs).set v .no := rfl
/-! ints -/
@[simp] theorem g_sub {i j : Int} : gSub (.int i) (.int j) = some (.int (i - j)) := rfl
@[simp] theorem g_add {i j : Int} : gAdd (.int i) (.int j) = some (.int (i + j)) := rfl
@[simp] theorem g_rel {P : Int → Int → Bool} {i j : Int} : gRel P (.int i) (.int j) = some (.bl (P i j)) := rfl
@[simp] theorem g_ixl {l : List D} {i : Int} : gIx (.lst l) (.int i) = atI l i := rfl
@[simp] theorem g_ixt {l : List D} {i : Int} : gIx (.tup l) (.int i) = atI l i := rfl
@[simp] theorem g_len {l : List D} : gLen [.lst l] = some (.int l.length) := rfl
@[simp] theorem g_lent {l : List D} : gLen [.tup l] = some (.int l.length) := rfl
@[simp] theorem g_gcd {i j : Int} : gGcd [.int i, .int j] = some (.int ((Nat.gcd i.natAbs j.natAbs : Nat) : Int)) := rfl
theorem eqD_int {i j : Int} : eqD (.int i) (.int j) = some (decide (i = j)) := by
  unfold eqD
  have h1 : SeqAt.shaped (.int i) = true := by simp [SeqAt.shaped, PyData.canLay0, PyData.depth]
  have h2 : SeqAt.shaped (.int j) = true := by simp [SeqAt.shaped, PyData.canLay0, PyData.depth]
  simp only [toPy, Option.bind_some, h1, h2, and_self, if_true]
  show some (i == j) = _
  rfl
@[simp] theorem g_eq {i j : Int} : gEq (.int i) (.int j) = some (.bl (decide (i = j))) := by unfold gEq; rw [eqD_int]; rfl
@[simp] theorem g_ne {i j : Int} : gNe (.int i) (.int j) = some (.bl (!decide (i = j))) := by unfold gNe; rw [eqD_int]; rfl
theorem g_mul {i j : Int} (h : i.natAbs.log2 + j.natAbs.log2 < 1000000) : gMul (.int i) (.int j) = some (.int (i * j)) := if_pos h
theorem g_fdiv {i j : Int} (h : j ≠ 0 ∧ j.natAbs.log2 < 9000) : gFdiv (.int i) (.int j) = some (.int (i.fdiv j)) := if_pos h
end
theorem at_nat {α : Type} {l : List α} {i : Nat} : atI l (i : Int) = l[i]? := by
  unfold atI ixN
  rw [if_pos (Int.natCast_nonneg i)]
  by_cases h : i < l.length
  · rw [if_pos (by omega)]; rfl
  · rw [if_neg (by omega)]
    exact (List.getElem?_eq_none_iff.mpr (by omega)).symm
@[simp] theorem at_0 {α : Type} {l : List α} : atI l 0 = l[0]? := at_nat (i := 0)
@[simp] theorem at_1 {α : Type} {l : List α} : atI l 1 = l[1]? := at_nat (i := 1)
@[simp] theorem at_2 {α : Type} {l : List α} : atI l 2 = l[2]? := at_nat (i := 2)
theorem intsOf_map : ∀ l : List Int, intsOf (l.map .int) = some l
  | [] => rfl
  | x :: l => by
    show (intsOf (l.map .int)).map (fun m => x :: m) = _
    rw [intsOf_map l]; rfl
theorem blsOf_map : ∀ l : List Bool, blsOf (l.map .bl) = some l
  | [] => rfl
  | x :: l => by
    show (blsOf (l.map .bl)).map (fun m => x :: m) = _
    rw [blsOf_map l]; rfl
theorem g_all {l : List Bool} : gAll [.lst (l.map .bl)] = some (.bl (l.all id)) := by
  unfold gAll
  dsimp only
  rw [blsOf_map]; rfl
/-! ### comprehensions, loops -/
theorem compL {α : Type} {t : TgF} {c : BF} {f : EF} {ρ : DEnv} {p : Pot} (enc : α → D) (b : α → Bool) (g : α → D) : ∀ {xs : List α}, (∀ x ∈ xs, ∃ ρ', t ρ (enc x) = some ρ' ∧ c ρ' p = some (b x, p) ∧ (b x = true → f ρ' p = some (g x, p))) →
    dCompL t c f (xs.map enc) ρ p = some ((xs.filter b).map g, p)
  | [], _ => rfl
  | x :: xs, h => by
    obtain ⟨ρ', h1, h2, h3⟩ := h x List.mem_cons_self
    have ih := compL enc b g (xs := xs) fun y hy => h y (List.mem_cons_of_mem _ hy)
    show (t ρ (enc x)).bind _ = _
    rw [h1]
    show (c ρ' p).bind _ = _
    rw [h2]
    show (if b x = true then _ else _) = _
    by_cases hb : b x = true
    · rw [if_pos hb, h3 hb, List.filter_cons_of_pos hb]
      show (dCompL t c f (xs.map enc) ρ p).map _ = _
      rw [ih]; rfl
    · rw [if_neg hb, List.filter_cons_of_neg hb]
      exact ih
theorem compM {α : Type} {t : TgF} {f : EF} {ρ : DEnv} {p : Pot} (enc : α → D) (g : α → D) {xs : List α} (h : ∀ x ∈ xs, ∃ ρ', t ρ (enc x) = some ρ' ∧ f ρ' p = some (g x, p)) :
    dCompL t bTrue f (xs.map enc) ρ p = some (xs.map g, p) := by
  have := compL (c := bTrue) enc (fun _ => true) g (xs := xs) (t := t) (f := f) (ρ := ρ) (p := p) fun x hx => by
    obtain ⟨ρ', h1, h2⟩ := h x hx
    exact ⟨ρ', h1, rfl, fun _ => h2⟩
  rw [this, List.filter_eq_self.mpr fun _ _ => rfl]
/-- a comprehension that draws -/
theorem compD {α : Type} {t : TgF} {f : EF} {ρ : DEnv} (enc : α → D) (g : α → Pot → D × Pot) (I : Pot → Prop) (J : D → Prop) : ∀ {xs : List α} {p : Pot}, I p → (∀ x ∈ xs, ∀ p, I p → ∃ ρ', t ρ (enc x) = some ρ' ∧ f ρ' p = some (g x p) ∧ I (g x p).2 ∧ J (g x p).1) →
    ∃ ds p', dCompL t bTrue f (xs.map enc) ρ p = some (ds, p') ∧ I p' ∧ ds.length = xs.length ∧ ∀ d ∈ ds, J d
  | [], p, hp, _ => ⟨[], p, rfl, hp, rfl, fun _ h => absurd h (by simp)⟩
  | x :: xs, p, hp, h => by
    obtain ⟨ρ', h1, h2, h3, h4⟩ := h x List.mem_cons_self p hp
    obtain ⟨ds, p', i1, i2, i3, i4⟩ := compD enc g I J (xs := xs) (p := (g x p).2) h3 fun y hy => h y (List.mem_cons_of_mem _ hy)
    refine ⟨(g x p).1 :: ds, p', ?_, i2, by simp [i3], fun d hd => ?_⟩
    · show (t ρ (enc x)).bind _ = _
      rw [h1]
      show (f ρ' p).bind _ = _
      rw [h2]
      show (dCompL t bTrue f (xs.map enc) ρ (g x p).2).map _ = _
      rw [i1]; rfl
    · rcases List.mem_cons.mp hd with rfl | hd
      · exact h4
      · exact i4 d hd
/-- a for that goes on through all items: s the state that matters, j the rest of the slots -/
theorem forL {α S J : Type} {t : TgF} {g : SF} {p : Pot} (enc : α → D) (R : S → J → DEnv) (step : S → α → S) (I : S → Prop) : ∀ {xs : List α} {s : S} {j : J}, I s →
    (∀ x ∈ xs, ∀ s j, I s → I (step s x) ∧ ∃ r j', t (R s j) (enc x) = some r ∧ g r p = some (.nx, R (step s x) j', p)) → ∃ j', dForL t g (xs.map enc) (R s j) p = some (.nx, R (xs.foldl step s) j', p)
  | [], s, j, _, _ => ⟨j, rfl⟩
  | x :: xs, s, j, hi, h => by
    obtain ⟨hi', r, j1, h1, h2⟩ := h x List.mem_cons_self s j hi
    obtain ⟨j', ih⟩ := forL enc R step I (xs := xs) (s := step s x) (j := j1) hi' fun y hy => h y (List.mem_cons_of_mem _ hy)
    refine ⟨j', ?_⟩
    show (t (R s j) (enc x)).bind _ = _
    rw [h1]
    show (g r p).bind _ = _
    rw [h2]
    exact ih
end DL
namespace DL
open PySem PySem.Spec PyProof.Rows L2
/-- a for that may return -/
theorem forRet {α J : Type} {t : TgF} {g : SF} {p : Pot} (enc : α → D) (R : J → DEnv) (P : α → Bool) (ret : α → D) : ∀ {xs : List α} {j : J},
    (∀ x ∈ xs, ∀ j, ∃ r j', t (R j) (enc x) = some r ∧ g r p = if P x = true then some (.rt (ret x), R j', p) else some (.nx, R j', p)) →
    ∃ j', dForL t g (xs.map enc) (R j) p = match xs.find? P with
      | some x => some (.rt (ret x), R j', p)
      | none => some (.nx, R j', p)
  | [], j, _ => ⟨j, rfl⟩
  | x :: xs, j, h => by
    obtain ⟨r, j1, h1, h2⟩ := h x List.mem_cons_self j
    obtain ⟨j', ih⟩ := forRet enc R P ret (xs := xs) (j := j1) fun y hy => h y (List.mem_cons_of_mem _ hy)
    by_cases hp : P x = true
    · refine ⟨j1, ?_⟩
      rw [List.find?_cons_of_pos hp]
      show (t (R j) (enc x)).bind _ = _
      rw [h1]
      show (g r p).bind _ = _
      rw [h2, if_pos hp]; rfl
    · refine ⟨j', ?_⟩
      rw [List.find?_cons_of_neg hp]
      show (t (R j) (enc x)).bind _ = _
      rw [h1]
      show (g r p).bind _ = _
      rw [h2, if_neg hp]
      exact ih
/-! encodings -/
def eI (l : List Int) : D := .lst (l.map .int)
def eR (l : List (List Int)) : D := .lst (l.map eI)
def eQ (x : Int × Int) : D := .tup [.int x.1, .int x.2]
def eQs (l : List (Int × Int)) : D := .lst (l.map eQ)
def eQR (l : List (List (Int × Int))) : D := .lst (l.map eQs)
/-! sizes -/
def Bt (n : Nat) (x : Int) : Prop := x.natAbs < 2 ^ n
theorem Bt.log {n : Nat} {x : Int} (h : Bt n x) (hn : 0 < n) : x.natAbs.log2 < n := by
  by_cases h0 : x.natAbs = 0
  · rw [h0]; simpa using hn
  · exact (Nat.log2_lt h0).mpr h
theorem Bt.mono {n m : Nat} {x : Int} (h : Bt n x) (hn : n ≤ m) : Bt m x := Nat.lt_of_lt_of_le h (Nat.pow_le_pow_right (by decide) hn)
theorem Bt.mul {n m : Nat} {x y : Int} (h : Bt n x) (h2 : Bt m y) : Bt (n + m) (x * y) := by
  unfold Bt at *
  rw [Int.natAbs_mul, Nat.pow_add]
  have h3 : 0 < 2 ^ m := Nat.pow_pos (by decide)
  exact Nat.mul_lt_mul'' h h2
theorem Bt.add {n : Nat} {x y : Int} (h : Bt n x) (h2 : Bt n y) : Bt (n + 1) (x + y) := by
  unfold Bt at *
  have := Int.natAbs_add_le x y
  rw [Nat.pow_succ]; omega
theorem Bt.sub {n : Nat} {x y : Int} (h : Bt n x) (h2 : Bt n y) : Bt (n + 1) (x - y) := by
  unfold Bt at *
  have := Int.natAbs_sub_le x y
  rw [Nat.pow_succ]; omega
theorem Bt.zero {n : Nat} : Bt n 0 := Nat.pow_pos (by decide)
theorem Bt.one {n : Nat} (h : 0 < n) : Bt n 1 := Nat.one_lt_two_pow (by omega)
theorem mul_ok {n m : Nat} {x y : Int} (h : Bt n x) (h2 : Bt m y) (hn : 0 < n) (hm : 0 < m) (hs : n + m ≤ 1000000) : gMul (.int x) (.int y) = some (.int (x * y)) :=
  g_mul (by have := h.log hn; have := h2.log hm; omega)
theorem noOw_of {ρ : DEnv} {vs : List Nat} (h : ∀ i ∈ vs, ∀ l, ρ[i]? ≠ some (.ow l)) : noOw ρ vs = true := by
  unfold noOw
  refine List.all_eq_true.mpr fun i hi => ?_
  have := h i hi
  split
  · rename_i l e; exact absurd e (this l)
  · rfl
end DL
namespace DL
section
variable {ρ ρ1 ρ2 : DEnv} {p p1 p2 : Pot} {f g h : EF} {a b : AF} {s t : SF} {c : BF} {l : LF} {tg : TgF} {d : D} {ds es : List D} {r : Option (Fl × DEnv × Pot)} {e : Option (D × Pot)}
theorem x_seq (h1 : s ρ p = some (.nx, ρ1, p1)) (h2 : t ρ1 p1 = r) : dSeq s t ρ p = r := by
  unfold dSeq; rw [h1]; exact h2
theorem x_seqR (h1 : s ρ p = some (.rt d, ρ1, p1)) : dSeq s t ρ p = some (.rt d, ρ1, p1) := by
  unfold dSeq; rw [h1]; rfl
theorem x_def {n : Nat} {N : List PySem.Str} {fr : Bool} (hl : ds.length = n) (h : s (startD N fr ds) p = some (.rt d, ρ1, p1)) : defD n N fr s ds p = some (d, p1) := by
  unfold defD; rw [if_pos hl]; unfold runD; rw [h]; rfl
theorem x_ret (h : f ρ p = some (d, p1)) : dRet f ρ p = some (.rt d, ρ, p1) := by
  unfold dRet; rw [h]; rfl
theorem x_asg (h : f ρ p = some (d, p1)) (h2 : tg ρ d = some ρ1) : dAsg f tg ρ p = some (.nx, ρ1, p1) := by
  unfold dAsg; rw [h]
  show (tg ρ d).map _ = _
  rw [h2]; rfl
theorem x_asgN {i : Nat} (h : f ρ p = some (d, p1)) : dAsg f (tgName .al i) ρ p = some (.nx, ρ.set i (.sh d), p1) := x_asg h rfl
theorem x_own {i : Nat} (h : l ρ p = some (ds, p1)) : dOwn l i ρ p = some (.nx, ρ.set i (.ow ds), p1) := by
  unfold dOwn; rw [h]; rfl
theorem x_iteT (h : c ρ p = some (true, p1)) (h2 : s ρ p1 = r) : dIte c s t ρ p = r := by
  unfold dIte; rw [h]; exact h2
theorem x_iteF (h : c ρ p = some (false, p1)) (h2 : t ρ p1 = r) : dIte c s t ρ p = r := by
  unfold dIte; rw [h]; exact h2
theorem x_ifT (h : c ρ p = some (true, p1)) (h2 : f ρ p1 = e) : dIf c f g ρ p = e := by
  unfold dIf; rw [h]; exact h2
theorem x_ifF (h : c ρ p = some (false, p1)) (h2 : g ρ p1 = e) : dIf c f g ρ p = e := by
  unfold dIf; rw [h]; exact h2
theorem x_for (h : l ρ p = some (ds, p1)) (h2 : dForL tg s ds ρ p1 = r) : dFor l tg s ρ p = r := by
  unfold dFor; rw [h]; exact h2
theorem x_comp {vs : List Nat} (hn : noOw ρ vs = true) (h : l ρ p = some (ds, p1)) (h2 : dCompL tg c f ds (wipeD ρ vs) p1 = some (es, p2)) (hl : es.length ≤ 65536) : lComp vs l tg c f ρ p = some (es, p2) := by
  unfold lComp; rw [if_pos hn, h]
  show (dCompL tg c f ds (wipeD ρ vs) p1).bind _ = _
  rw [h2]; exact if_pos hl
theorem x_eL (h : l ρ p = some (ds, p1)) : eL l ρ p = some (.lst ds, p1) := by
  unfold eL; rw [h]; rfl
theorem x_lOf (h : f ρ p = some (.lst ds, p1)) : lOf f ρ p = some (ds, p1) := by
  unfold lOf; rw [h]; rfl
theorem x_call {fn : PF} (h : a ρ p = some (ds, p1)) (h2 : fn ds p1 = e) : dCall fn a ρ p = e := by
  unfold dCall; rw [h]; exact h2
theorem x_app {o : GA} (h : a ρ p = some (ds, p1)) (h2 : o ds = some d) : dApp o a ρ p = some (d, p1) := by
  unfold dApp; rw [h]
  show (o ds).map _ = _
  rw [h2]; rfl
theorem x_cons (h : f ρ p = some (d, p1)) (h2 : a ρ p1 = some (ds, p2)) : dCons f a ρ p = some (d :: ds, p2) := by
  unfold dCons; rw [h]
  show (a ρ p1).map _ = _
  rw [h2]; rfl
theorem x_bin {o : G2} {d1 d2 : D} (h : f ρ p = some (d1, p1)) (h2 : g ρ p1 = some (d2, p2)) (h3 : o d1 d2 = some d) : dBin o f g ρ p = some (d, p2) := by
  unfold dBin; rw [h]
  show (g ρ p1).bind _ = _
  rw [h2]
  show (o d1 d2).map _ = _
  rw [h3]; rfl
theorem x_bOf {b : Bool} (h : f ρ p = some (.bl b, p1)) : bOf f ρ p = some (b, p1) := by
  unfold bOf; rw [h]; rfl
theorem x_bNot {b : Bool} (h : c ρ p = some (b, p1)) : bNot c ρ p = some (!b, p1) := by
  unfold bNot; rw [h]; rfl
theorem x_bOr {c' : BF} {b : Bool} {e : Option (Bool × Pot)} (h : c ρ p = some (b, p1)) (h2 : (if b = true then some (true, p1) else c' ρ p1) = e) : bOr c c' ρ p = e := by
  unfold bOr; rw [h]; exact h2
theorem x_bAnd {c' : BF} {b : Bool} {e : Option (Bool × Pot)} (h : c ρ p = some (b, p1)) (h2 : (if b = true then c' ρ p1 else some (false, p1)) = e) : bAnd c c' ρ p = e := by
  unfold bAnd; rw [h]; exact h2
theorem x_and {b : Bool} (h : f ρ p = some (.bl b, p1)) (h2 : (if b = true then g ρ p1 else some (.bl false, p1)) = e) : dAnd f g ρ p = e := by
  unfold dAnd; rw [x_bOf h]; exact h2
theorem x_or {b : Bool} (h : f ρ p = some (.bl b, p1)) (h2 : (if b = true then some (.bl true, p1) else g ρ p1) = e) : dOr f g ρ p = e := by
  unfold dOr; rw [x_bOf h]; exact h2
theorem x_lst (h : a ρ p = some (ds, p1)) (hl : ds.length ≤ 65536) : dLst a ρ p = some (.lst ds, p1) := by
  unfold dLst; rw [h]; exact if_pos hl
theorem x_lLst (h : a ρ p = some (ds, p1)) (hl : ds.length ≤ 65536) : lLst a ρ p = some (ds, p1) := by
  unfold lLst; rw [h]; exact if_pos hl
theorem x_tup (h : a ρ p = some (ds, p1)) (hl : ds.length ≤ 65536) : dTup a ρ p = some (.tup ds, p1) := by
  unfold dTup; rw [h]; exact if_pos hl
theorem x_zip {l' : LF} (h : l ρ p = some (ds, p1)) (h2 : l' ρ p1 = some (es, p2)) : lZip l l' ρ p = some ((ds.zip es).map fun z => D.tup [z.1, z.2], p2) := by
  unfold lZip; rw [h]
  show (l' ρ p1).map _ = _
  rw [h2]; rfl
theorem x_enum (h : l ρ p = some (ds, p1)) : lEnum l ρ p = some (ds.zipIdx.map fun y => D.tup [.int (y.2 : Nat), y.1], p1) := by
  unfold lEnum; rw [h]; rfl
theorem x_range1 {n : Int} (h : a ρ p = some ([.int n], p1)) (hn : -65536 < n ∧ n < 65536) : lRange1 a ρ p = some (dInts 0 n.toNat, p1) := by
  unfold lRange1; rw [h]; exact if_pos hn
theorem x_cat {l' : LF} (h : l ρ p = some (ds, p1)) (h2 : l' ρ p1 = some (es, p2)) (hl : ds.length + es.length ≤ 65536) : lCat l l' ρ p = some (ds ++ es, p2) := by
  unfold lCat; rw [h]
  show (l' ρ p1).bind _ = _
  rw [h2]; exact if_pos hl
theorem x_prop {fn : PF} (h : f ρ p = some (d, p1)) (hr : isR d = true) (h2 : fn [d] p1 = e) : dProp fn f ρ p = e := by
  unfold dProp; rw [h]
  show (if isR d = true then fn [d] p1 else none) = _
  rw [if_pos hr]; exact h2
theorem x_meth {fn : PF} (h : f ρ p = some (d, p1)) (hr : isR d = true) (ha : a ρ p1 = some (ds, p2)) (h2 : fn (d :: ds) p2 = e) : dMeth fn f a ρ p = e := by
  unfold dMeth; rw [h]
  show (if isR d = true then (a ρ p1).bind _ else none) = _
  rw [if_pos hr, ha]; exact h2
theorem x_bop {fn : PF} {d1 d2 : D} (h : f ρ p = some (d1, p1)) (h2 : g ρ p1 = some (d2, p2)) (hr : isR d1 = true ∧ ratInt d2 = true) (h3 : fn [d1, d2] p2 = e) : dBop fn f g ρ p = e := by
  unfold dBop; rw [h]
  show (g ρ p1).bind _ = _
  rw [h2]
  show (if isR d1 = true ∧ ratInt d2 = true then fn [d1, d2] p2 else none) = _
  rw [if_pos hr]; exact h3
theorem x_eqo {fn : PF} {d1 d2 : D} (h : f ρ p = some (d1, p1)) (h2 : g ρ p1 = some (d2, p2)) (hr : isR d1 = true ∧ isR d2 = true) (h3 : fn [d1, d2] p2 = e) : dEqo fn f g ρ p = e := by
  unfold dEqo; rw [h]
  show (g ρ p1).bind _ = _
  rw [h2]
  show (if isR d1 = true ∧ isR d2 = true then fn [d1, d2] p2 else none) = _
  rw [if_pos hr]; exact h3
theorem dInts_map (n : Nat) : dInts 0 n = (List.range n).map fun i => D.int (i : Nat) := by
  unfold dInts
  simp
theorem x_slTo {i : Nat} (h : l ρ p = some (ds, p1)) (hi : f ρ p1 = some (.int (i : Nat), p2)) (hl : i ≤ ds.length) : lSl l oNone (oSome f) ρ p = some (ds.take i, p2) := by
  unfold lSl; rw [h]
  simp only [Option.bind_some, ev_oNone]
  rw [show oSome f ρ p1 = some (some (i : Int), p2) by unfold oSome; rw [hi]; rfl]
  show some (cutD ds none (some (i : Int)), p2) = _
  unfold cutD
  rw [show HT.sIx ds.length 0 none = 0 from HT.sIx_none .., show HT.sIx ds.length ds.length (some (i : Int)) = min i ds.length from HT.sIx_nat ..]
  rw [Nat.min_eq_left hl]; simp
theorem x_slFrom {i : Nat} (h : l ρ p = some (ds, p1)) (hi : f ρ p1 = some (.int (i : Nat), p2)) (hl : i ≤ ds.length) : lSl l (oSome f) oNone ρ p = some (ds.drop i, p2) := by
  unfold lSl; rw [h]
  simp only [Option.bind_some]
  rw [show oSome f ρ p1 = some (some (i : Int), p2) by unfold oSome; rw [hi]; rfl]
  simp only [Option.bind_some, ev_oNone]
  show some (cutD ds (some (i : Int)) none, p2) = _
  unfold cutD
  rw [show HT.sIx ds.length ds.length none = ds.length from HT.sIx_none .., show HT.sIx ds.length 0 (some (i : Int)) = min i ds.length from HT.sIx_nat ..]
  rw [Nat.min_eq_left hl]
  rw [List.take_of_length_le (by rw [List.length_drop]; omega)]
end
end DL
namespace DL
/-- a slot that a loop's target leaves -/
def jS : Option D → Slot
  | none => .no
  | some d => .sh d
end DL
namespace DL
theorem x_ratF {ρ : DEnv} {p p1 : Pot} {f : EF} {d : D} (h : f ρ p = some (d, p1)) (hd : isR d = true ∨ d.flat = true) : dRatF f ρ p = some (d, p1) := by
  unfold dRatF; rw [h]; exact if_pos hd
end DL
namespace DL
open PySem PySem.Spec PyProof.Rows L2
/-! ### == of trees of ints -/
mutual
def plD : D → Bool
  | .int _ => true
  | .lst l => plAll l
  | .tup l => plAll l
  | _ => false
def plAll : List D → Bool
  | [] => true
  | d :: ds => plD d && plAll ds
end
mutual
theorem pl_py : ∀ d : D, plD d = true → ∃ x, toPy d = some x ∧ x.canLay0 = true ∧ x.depth = dpD d
  | .int i, _ => ⟨.int i, rfl, by simp [PyData.canLay0], by simp [PyData.depth, dpD]⟩
  | .lst l, h => by
    unfold plD at h
    obtain ⟨xs, h1, h2, h3⟩ := plAll_py l h
    exact ⟨.list xs, by unfold toPy; rw [h1]; rfl, by unfold PyData.canLay0; exact h2, by unfold PyData.depth dpD; rw [h3]⟩
  | .tup l, h => by
    unfold plD at h
    obtain ⟨xs, h1, h2, h3⟩ := plAll_py l h
    exact ⟨.tuple xs, by unfold toPy; rw [h1]; rfl, by unfold PyData.canLay0; exact h2, by unfold PyData.depth dpD; rw [h3]⟩
  | .non, h => by cases h
  | .bl _, h => by cases h
  | .str _, h => by cases h
  | .rat _ _, h => by cases h
  | .edict, h => by cases h
  | .pot, h => by cases h
  | .ty _, h => by cases h
  | .obj _, h => by cases h
theorem plAll_py : ∀ d : List D, plAll d = true → ∃ x, toPyAll d = some x ∧ PyData.canLayAll0 x = true ∧ PyData.depthAll x = dpAll d
  | [], _ => ⟨[], rfl, by simp [PyData.canLayAll0], by simp [PyData.depthAll, dpAll]⟩
  | d :: ds, h => by
    unfold plAll at h
    rw [Bool.and_eq_true] at h
    obtain ⟨x, h1, h2, h3⟩ := pl_py d h.1
    obtain ⟨xs, k1, k2, k3⟩ := plAll_py ds h.2
    exact ⟨x :: xs, by unfold toPyAll; rw [h1, k1]; rfl, by unfold PyData.canLayAll0; rw [h2, k2]; rfl, by unfold PyData.depthAll dpAll; rw [h3, k3]⟩
end
mutual
theorem pl_eqv : ∀ (a b : D) {x y : PyData}, plD a = true → plD b = true → toPy a = some x → toPy b = some y → (PyData.eqv x y = true ↔ a = b)
  | .int i, .int j, x, y, _, _, h1, h2 => by
    cases h1; cases h2
    simp [PyData.eqv]
  | .int i, .lst l, x, y, _, h, h1, h2 => by
    cases h1
    unfold plD at h
    obtain ⟨xs, k1, _, _⟩ := plAll_py l h
    unfold toPy at h2
    rw [k1] at h2
    cases h2
    simp [PyData.eqv]
  | .int i, .tup l, x, y, _, h, h1, h2 => by
    cases h1
    unfold plD at h
    obtain ⟨xs, k1, _, _⟩ := plAll_py l h
    unfold toPy at h2
    rw [k1] at h2
    cases h2
    simp [PyData.eqv]
  | .lst l, .int i, x, y, h, _, h1, h2 => by
    cases h2
    unfold plD at h
    obtain ⟨xs, k1, _, _⟩ := plAll_py l h
    unfold toPy at h1
    rw [k1] at h1
    cases h1
    simp [PyData.eqv]
  | .tup l, .int i, x, y, h, _, h1, h2 => by
    cases h2
    unfold plD at h
    obtain ⟨xs, k1, _, _⟩ := plAll_py l h
    unfold toPy at h1
    rw [k1] at h1
    cases h1
    simp [PyData.eqv]
  | .lst l, .lst m, x, y, h, h', h1, h2 => by
    unfold plD at h h'
    obtain ⟨xs, k1, _, _⟩ := plAll_py l h
    obtain ⟨ys, k2, _, _⟩ := plAll_py m h'
    unfold toPy at h1 h2
    rw [k1] at h1
    rw [k2] at h2
    cases h1; cases h2
    have := plAll_eqv l m h h' k1 k2
    simp [PyData.eqv, this]
  | .tup l, .tup m, x, y, h, h', h1, h2 => by
    unfold plD at h h'
    obtain ⟨xs, k1, _, _⟩ := plAll_py l h
    obtain ⟨ys, k2, _, _⟩ := plAll_py m h'
    unfold toPy at h1 h2
    rw [k1] at h1
    rw [k2] at h2
    cases h1; cases h2
    have := plAll_eqv l m h h' k1 k2
    simp [PyData.eqv, this]
  | .lst l, .tup m, x, y, h, h', h1, h2 => by
    unfold plD at h h'
    obtain ⟨xs, k1, _, _⟩ := plAll_py l h
    obtain ⟨ys, k2, _, _⟩ := plAll_py m h'
    unfold toPy at h1 h2
    rw [k1] at h1
    rw [k2] at h2
    cases h1; cases h2
    simp [PyData.eqv]
  | .tup l, .lst m, x, y, h, h', h1, h2 => by
    unfold plD at h h'
    obtain ⟨xs, k1, _, _⟩ := plAll_py l h
    obtain ⟨ys, k2, _, _⟩ := plAll_py m h'
    unfold toPy at h1 h2
    rw [k1] at h1
    rw [k2] at h2
    cases h1; cases h2
    simp [PyData.eqv]
theorem plAll_eqv : ∀ (a b : List D) {x y : List PyData}, plAll a = true → plAll b = true → toPyAll a = some x → toPyAll b = some y → (PyData.eqvAll x y = true ↔ a = b)
  | [], [], x, y, _, _, h1, h2 => by
    cases h1; cases h2
    simp [PyData.eqvAll]
  | [], d :: ds, x, y, _, h, h1, h2 => by
    cases h1
    obtain ⟨xs, k1, _, _⟩ := plAll_py (d :: ds) h
    rw [k1] at h2
    cases h2
    unfold plAll at h
    rw [Bool.and_eq_true] at h
    obtain ⟨u, u1, _⟩ := pl_py d h.1
    obtain ⟨us, v1, _⟩ := plAll_py ds h.2
    unfold toPyAll at k1
    rw [u1, v1] at k1
    cases k1
    simp [PyData.eqvAll]
  | d :: ds, [], x, y, h, _, h1, h2 => by
    cases h2
    unfold plAll at h
    rw [Bool.and_eq_true] at h
    obtain ⟨u, u1, _⟩ := pl_py d h.1
    obtain ⟨us, v1, _⟩ := plAll_py ds h.2
    unfold toPyAll at h1
    rw [u1, v1] at h1
    cases h1
    simp [PyData.eqvAll]
  | d :: ds, e :: es, x, y, h, h', h1, h2 => by
    unfold plAll at h h'
    rw [Bool.and_eq_true] at h h'
    obtain ⟨u, u1, _⟩ := pl_py d h.1
    obtain ⟨us, v1, _⟩ := plAll_py ds h.2
    obtain ⟨u', u1', _⟩ := pl_py e h'.1
    obtain ⟨us', v1', _⟩ := plAll_py es h'.2
    unfold toPyAll at h1 h2
    rw [u1, v1] at h1
    rw [u1', v1'] at h2
    cases h1; cases h2
    have a1 := pl_eqv d e h.1 h'.1 u1 u1'
    have a2 := plAll_eqv ds es h.2 h'.2 v1 v1'
    simp [PyData.eqvAll, a1, a2]
end
theorem eqD_pl {a b : D} {r : Bool} (ha : plD a = true) (hb : plD b = true) (da : dpD a ≤ 64) (db : dpD b ≤ 64) (h : r = true ↔ a = b) : eqD a b = some r := by
  obtain ⟨x, h1, h2, h3⟩ := pl_py a ha
  obtain ⟨y, k1, k2, k3⟩ := pl_py b hb
  unfold eqD
  rw [h1, k1]
  have e := pl_eqv a b ha hb h1 k1
  simp only [Option.bind_some]
  rw [if_pos ⟨by unfold SeqAt.shaped; rw [h2, Bool.true_and, decide_eq_true_iff, h3]; exact da, by unfold SeqAt.shaped; rw [k2, Bool.true_and, decide_eq_true_iff, k3]; exact db⟩]
  have : PyData.eqv x y = r := by
    rw [Bool.eq_iff_iff, e, h]
  rw [this]
theorem gEq_pl {a b : D} {r : Bool} (ha : plD a = true) (hb : plD b = true) (da : dpD a ≤ 64) (db : dpD b ≤ 64) (h : r = true ↔ a = b) : gEq a b = some (.bl r) := by unfold gEq; rw [eqD_pl ha hb da db h]; rfl
theorem gNe_pl {a b : D} {r : Bool} (ha : plD a = true) (hb : plD b = true) (da : dpD a ≤ 64) (db : dpD b ≤ 64) (h : r = true ↔ a = b) : gNe a b = some (.bl (!r)) := by unfold gNe; rw [eqD_pl ha hb da db h]; rfl
/-! lists of things of one kind -/
theorem pl_map {α : Type} {f : α → D} : ∀ {l : List α}, (∀ x ∈ l, plD (f x) = true) → plAll (l.map f) = true
  | [], _ => rfl
  | x :: l, h => by
    show (plD (f x) && plAll (l.map f)) = true
    rw [h x List.mem_cons_self, pl_map fun y hy => h y (List.mem_cons_of_mem _ hy)]; rfl
theorem dp_map {α : Type} {f : α → D} {n : Nat} : ∀ {l : List α}, (∀ x ∈ l, dpD (f x) ≤ n) → dpAll (l.map f) ≤ n
  | [], _ => Nat.zero_le _
  | x :: l, h => by
    show max (dpD (f x)) (dpAll (l.map f)) ≤ n
    exact Nat.max_le.mpr ⟨h x List.mem_cons_self, dp_map fun y hy => h y (List.mem_cons_of_mem _ hy)⟩
theorem pl_eI (l : List Int) : plD (eI l) = true ∧ dpD (eI l) ≤ 1 :=
  ⟨by unfold eI plD; exact pl_map fun _ _ => rfl, by unfold eI dpD; exact Nat.succ_le_succ (dp_map fun _ _ => Nat.le_refl _)⟩
theorem pl_eR (l : List (List Int)) : plD (eR l) = true ∧ dpD (eR l) ≤ 2 :=
  ⟨by unfold eR plD; exact pl_map fun x _ => (pl_eI x).1, by unfold eR dpD; exact Nat.succ_le_succ (dp_map fun x _ => (pl_eI x).2)⟩
theorem pl_eQ (x : Int × Int) : plD (eQ x) = true ∧ dpD (eQ x) ≤ 1 := ⟨rfl, by unfold eQ dpD; simp [dpAll, dpD]⟩
theorem map_inj {α β : Type} {f : α → β} (h : ∀ a b, f a = f b → a = b) : ∀ {l m : List α}, l.map f = m.map f → l = m
  | [], [], _ => rfl
  | [], _ :: _, e => by cases e
  | _ :: _, [], e => by cases e
  | x :: l, y :: m, e => by
    simp only [List.map_cons, List.cons.injEq] at e
    rw [h _ _ e.1, map_inj h e.2]
theorem eI_inj {l m : List Int} : eI l = eI m ↔ l = m := by
  unfold eI
  constructor
  · intro h
    injection h with h
    exact map_inj (fun a b e => by injection e) h
  · rintro rfl; rfl
theorem eR_inj {l m : List (List Int)} : eR l = eR m ↔ l = m := by
  unfold eR
  constructor
  · intro h
    injection h with h
    exact map_inj (fun a b e => eI_inj.mp e) h
  · rintro rfl; rfl
/-- a for that goes on, with what holds at each place -/
theorem forLi {α S J : Type} {t : TgF} {g : SF} {p : Pot} (enc : α → D) (R : S → J → DEnv) (step : S → α → S) (I : Nat → S → Prop) : ∀ {xs : List α} {k : Nat} {s : S} {j : J}, I k s →
    (∀ i x, xs[i]? = some x → ∀ s j, I (k + i) s → I (k + i + 1) (step s x) ∧ ∃ r j', t (R s j) (enc x) = some r ∧ g r p = some (.nx, R (step s x) j', p)) → ∃ j', dForL t g (xs.map enc) (R s j) p = some (.nx, R (xs.foldl step s) j', p) ∧ I (k + xs.length) (xs.foldl step s)
  | [], k, s, j, hi, _ => ⟨j, rfl, hi⟩
  | x :: xs, k, s, j, hi, h => by
    obtain ⟨hi', r, j1, h1, h2⟩ := h 0 x rfl s j hi
    obtain ⟨j', ih, ii⟩ := forLi enc R step I (xs := xs) (k := k + 1) (s := step s x) (j := j1) hi' fun i y hy s j hs => by
      have := h (i + 1) y hy s j (by rw [show k + (i + 1) = k + 1 + i by omega]; exact hs)
      rw [show k + (i + 1) + 1 = k + 1 + i + 1 by omega] at this
      exact this
    refine ⟨j', ?_, ?_⟩
    · show (t (R s j) (enc x)).bind _ = _
      rw [h1]
      show (g r p).bind _ = _
      rw [h2]
      exact ih
    · rw [show k + (x :: xs).length = k + 1 + xs.length by rw [List.length_cons]; omega]
      exact ii
end DL
namespace DL
theorem x_lSeqL {ρ : DEnv} {p p1 : Pot} {f : EF} {ds : List D} (h : f ρ p = some (.lst ds, p1)) : lSeq f ρ p = some (ds, p1) := by unfold lSeq; rw [h]; rfl
theorem x_lSeqT {ρ : DEnv} {p p1 : Pot} {f : EF} {ds : List D} (h : f ρ p = some (.tup ds, p1)) : lSeq f ρ p = some (ds, p1) := by unfold lSeq; rw [h]; rfl
end DL
/-! M1: ranks of lists of vectors over the rationals (vectors as functions of a place). Pure mathematics, no program. -/
namespace RK
abbrev Vec := Nat → Rat
/-- w is a combination of the list's vectors -/
def Spn : List Vec → Vec → Prop
  | [], w => ∀ j, w j = 0
  | v :: L, w => ∃ c : Rat, Spn L fun j => w j - c * v j
theorem Spn.congr {L : List Vec} {u w : Vec} (e : ∀ j, u j = w j) (h : Spn L u) : Spn L w := by
  have : u = w := funext e
  rw [← this]; exact h
theorem Spn.zero : ∀ L : List Vec, Spn L fun _ => 0
  | [] => fun _ => rfl
  | v :: L => ⟨0, (Spn.zero L).congr fun j => by grind⟩
theorem Spn.add : ∀ {L : List Vec} {u w : Vec}, Spn L u → Spn L w → Spn L fun j => u j + w j
  | [], u, w, h1, h2 => fun j => by
    have a := h1 j
    have b := h2 j
    show u j + w j = 0
    rw [a, b]; grind
  | v :: L, u, w, ⟨c, h1⟩, ⟨d, h2⟩ => ⟨c + d, (Spn.add h1 h2).congr fun j => by grind⟩
theorem Spn.smul (a : Rat) : ∀ {L : List Vec} {u : Vec}, Spn L u → Spn L fun j => a * u j
  | [], u, h => fun j => by
    have b := h j
    show a * u j = 0
    rw [b]; grind
  | v :: L, u, ⟨c, h⟩ => ⟨a * c, (Spn.smul a h).congr fun j => by grind⟩
theorem Spn.sub {L : List Vec} {u w : Vec} (h1 : Spn L u) (h2 : Spn L w) : Spn L fun j => u j - w j :=
  (h1.add (h2.smul (-1))).congr fun j => by grind
theorem Spn.cons {L : List Vec} {v w : Vec} (h : Spn L w) : Spn (v :: L) w := ⟨0, h.congr fun j => by grind⟩
theorem Spn.mem : ∀ {L : List Vec} {v : Vec}, v ∈ L → Spn L v
  | [], _, h => absurd h (by simp)
  | u :: L, v, h => by
    rcases List.mem_cons.mp h with rfl | h
    · exact ⟨1, (Spn.zero L).congr fun j => by grind⟩
    · exact (Spn.mem h).cons
/-- a span lies in another if its vectors do -/
theorem Spn.sub_of : ∀ {L M : List Vec} {w : Vec}, (∀ v ∈ L, Spn M v) → Spn L w → Spn M w
  | [], M, w, _, h => (Spn.zero M).congr fun j => (h j).symm
  | v :: L, M, w, hv, ⟨c, h⟩ => by
    have h1 := Spn.sub_of (fun u hu => hv u (List.mem_cons_of_mem _ hu)) h
    exact (h1.add ((hv v List.mem_cons_self).smul c)).congr fun j => by grind
theorem Spn.mono {L M : List Vec} {w : Vec} (hs : ∀ v ∈ L, v ∈ M) (h : Spn L w) : Spn M w := Spn.sub_of (fun v hv => Spn.mem (hs v hv)) h
theorem Spn.exch {L : List Vec} {u v : Vec} (h : Spn (v :: L) u) (hn : ¬ Spn L u) : Spn (u :: L) v := by
  obtain ⟨c, h⟩ := h
  have hc : c ≠ 0 := fun z => hn (h.congr fun j => by rw [z]; grind)
  exact ⟨1 / c, (h.smul (-1 / c)).congr fun j => by grind⟩
open Classical in
/-- the rank: how many are no combination of those behind them -/
noncomputable def rk : List Vec → Nat
  | [] => 0
  | v :: L => rk L + if Spn L v then 0 else 1
theorem rk_in {L : List Vec} {v : Vec} (h : Spn L v) : rk (v :: L) = rk L := by
  conv => lhs; unfold rk
  rw [if_pos h]; rfl
theorem rk_out {L : List Vec} {v : Vec} (h : ¬ Spn L v) : rk (v :: L) = rk L + 1 := by
  conv => lhs; unfold rk
  rw [if_neg h]
theorem rk_le : ∀ L : List Vec, rk L ≤ L.length
  | [] => Nat.le_refl _
  | v :: L => by
    have := rk_le L
    by_cases h : Spn L v
    · rw [rk_in h, List.length_cons]; omega
    · rw [rk_out h, List.length_cons]; omega
theorem rk_step {L : List Vec} {v : Vec} : rk L ≤ rk (v :: L) ∧ rk (v :: L) ≤ rk L + 1 := by
  by_cases h : Spn L v
  · rw [rk_in h]; omega
  · rw [rk_out h]; omega
theorem rk_swap (u v : Vec) (L : List Vec) : rk (u :: v :: L) = rk (v :: u :: L) := by
  by_cases hv : Spn L v
  · by_cases hu : Spn L u
    · rw [rk_in hu.cons, rk_in hv, rk_in hv.cons, rk_in hu]
    · have h1 : ¬ Spn (v :: L) u := fun z => hu (Spn.sub_of (fun x hx => by
        rcases List.mem_cons.mp hx with rfl | hx
        · exact hv
        · exact Spn.mem hx) z)
      rw [rk_out h1, rk_in hv, rk_in hv.cons, rk_out hu]
  · by_cases hu : Spn L u
    · have h1 : ¬ Spn (u :: L) v := fun z => hv (Spn.sub_of (fun x hx => by
        rcases List.mem_cons.mp hx with rfl | hx
        · exact hu
        · exact Spn.mem hx) z)
      rw [rk_in hu.cons, rk_out hv, rk_out h1, rk_in hu]
    · by_cases h1 : Spn (v :: L) u
      · rw [rk_in h1, rk_out hv, rk_in (h1.exch hu), rk_out hu]
      · have h2 : ¬ Spn (u :: L) v := fun z => h1 (z.exch hv)
        rw [rk_out h1, rk_out hv, rk_out h2, rk_out hu]
theorem spn_perm {L M : List Vec} (p : L.Perm M) {w : Vec} : Spn L w ↔ Spn M w := ⟨Spn.mono fun v h => p.mem_iff.mp h, Spn.mono fun v h => p.mem_iff.mpr h⟩
theorem rk_perm {L M : List Vec} (p : L.Perm M) : rk L = rk M := by
  induction p with
  | nil => rfl
  | @cons v l1 l2 p ih =>
    by_cases h : Spn l1 v
    · rw [rk_in h, rk_in ((spn_perm p).mp h), ih]
    · rw [rk_out h, rk_out (fun z => h ((spn_perm p).mpr z)), ih]
  | swap u v L => exact rk_swap v u L
  | trans _ _ h1 h2 => exact h1.trans h2
/-- what is added gains the less, the more there is -/
theorem rk_gain {A B C : List Vec} (hs : ∀ v ∈ C, v ∈ B) : rk (A ++ B) + rk C ≤ rk (A ++ C) + rk B := by
  induction A with
  | nil => simp; omega
  | cons v A ih =>
    rw [List.cons_append, List.cons_append]
    by_cases h : Spn (A ++ C) v
    · have h2 : Spn (A ++ B) v := h.mono fun u hu => by
        rcases List.mem_append.mp hu with q | q
        · exact List.mem_append_left _ q
        · exact List.mem_append_right _ (hs u q)
      rw [rk_in h, rk_in h2]; exact ih
    · have := (rk_step (L := A ++ B) (v := v)).2
      rw [rk_out h]; omega
theorem rk_mono {L M : List Vec} (hs : ∀ v ∈ L, v ∈ M) (hd : rk (M ++ L) ≤ rk M) : rk L ≤ rk M := by
  have h : rk L ≤ rk (M ++ L) := by
    clear hd hs
    induction M with
    | nil => exact Nat.le_refl _
    | cons v M ih => exact Nat.le_trans ih (rk_step (L := M ++ L)).1
  omega
theorem rk_app_le (M L : List Vec) : rk L ≤ rk (M ++ L) := by
  induction M with
  | nil => exact Nat.le_refl _
  | cons v M ih => exact Nat.le_trans ih (rk_step (L := M ++ L)).1
theorem rk_zero : ∀ {L : List Vec}, (∀ v ∈ L, ∀ j, v j = 0) → rk L = 0
  | [], _ => rfl
  | v :: L, h => by
    have : Spn L v := (Spn.zero L).congr fun j => (h v List.mem_cons_self j).symm
    rw [rk_in this, rk_zero fun u hu => h u (List.mem_cons_of_mem _ hu)]
theorem rk_pos {L : List Vec} {v : Vec} {j : Nat} (hv : v ∈ L) (hj : v j ≠ 0) : 0 < rk L := by
  induction L with
  | nil => exact absurd hv (by simp)
  | cons u L ih =>
    rcases List.mem_cons.mp hv with rfl | hv
    · by_cases h : Spn L v
      · rw [rk_in h]
        have : rk L ≠ 0 := fun z => by
          -- a list of rank 0 spans nothing but 0
          have key : ∀ {M : List Vec} {w : Vec}, rk M = 0 → Spn M w → ∀ i, w i = 0 := by
            intro M
            induction M with
            | nil => intro w _ hw; exact hw
            | cons x M ih2 =>
              intro w hz hw i
              have hx : Spn M x := Classical.byContradiction fun n => by rw [rk_out n] at hz; omega
              rw [rk_in hx] at hz
              obtain ⟨c, hw⟩ := hw
              have a := ih2 hz hw i
              have b := ih2 hz hx i
              grind
          exact hj (key z h j)
        omega
      · rw [rk_out h]; omega
    · exact Nat.lt_of_lt_of_le (ih hv) rk_step.1
/-! ### one step of elimination -/
/-- each row but the head, cleared at the place j -/
structure Clr (head : Vec) (j : Nat) (r s : Vec) : Prop where
  ex : ∃ a b : Rat, a ≠ 0 ∧ ∀ i, s i = a * r i - b * head i
  z : s j = 0
theorem clr_in {head : Vec} {j : Nat} {r s : Vec} (c : Clr head j r s) {L : List Vec} (hh : Spn L head) (hs : Spn L s) : Spn L r := by
  obtain ⟨a, b, ha, e⟩ := c.ex
  exact ((hs.add (hh.smul b)).smul (1 / a)).congr fun i => by
    have := e i
    grind
theorem clr_out {head : Vec} {j : Nat} {r s : Vec} (c : Clr head j r s) {L : List Vec} (hh : Spn L head) (hr : Spn L r) : Spn L s := by
  obtain ⟨a, b, ha, e⟩ := c.ex
  exact ((hr.smul a).sub (hh.smul b)).congr fun i => (e i).symm
/-- all vectors of a span vanish where the list's do -/
theorem spn_van {j : Nat} : ∀ {L : List Vec} {w : Vec}, (∀ v ∈ L, v j = 0) → Spn L w → w j = 0
  | [], w, _, h => h j
  | v :: L, w, hv, ⟨c, h⟩ => by
    have h1 := spn_van (fun u hu => hv u (List.mem_cons_of_mem _ hu)) h
    have h2 := hv v List.mem_cons_self
    grind
inductive ClrAll (head : Vec) (j : Nat) : List Vec → List Vec → Prop
  | nil : ClrAll head j [] []
  | cons {r s : Vec} {R S : List Vec} : Clr head j r s → ClrAll head j R S → ClrAll head j (r :: R) (s :: S)
theorem ClrAll.van {head : Vec} {j : Nat} : ∀ {R S : List Vec}, ClrAll head j R S → ∀ v ∈ S, v j = 0
  | _, _, .nil, v, h => absurd h (by simp)
  | _, _, .cons c r, v, h => by
    rcases List.mem_cons.mp h with rfl | h
    · exact c.z
    · exact r.van v h
theorem ClrAll.fwd {head : Vec} {j : Nat} {M : List Vec} (hh : Spn M head) : ∀ {R S : List Vec}, ClrAll head j R S → (∀ v ∈ R, Spn M v) → ∀ v ∈ S, Spn M v
  | _, _, .nil, _, v, h => absurd h (by simp)
  | _, _, .cons c r, hr, v, h => by
    rcases List.mem_cons.mp h with rfl | h
    · exact clr_out c hh (hr _ List.mem_cons_self)
    · exact r.fwd hh (fun u hu => hr u (List.mem_cons_of_mem _ hu)) v h
theorem ClrAll.bwd {head : Vec} {j : Nat} {M : List Vec} (hh : Spn M head) : ∀ {R S : List Vec}, ClrAll head j R S → (∀ v ∈ S, Spn M v) → ∀ v ∈ R, Spn M v
  | _, _, .nil, _, v, h => absurd h (by simp)
  | _, _, .cons c r, hr, v, h => by
    rcases List.mem_cons.mp h with rfl | h
    · exact clr_in c hh (hr _ List.mem_cons_self)
    · exact r.bwd hh (fun u hu => hr u (List.mem_cons_of_mem _ hu)) v h
theorem rk_clr {head : Vec} {j : Nat} (hj : head j ≠ 0) : ∀ {R S : List Vec}, ClrAll head j R S → rk (R ++ [head]) = rk S + 1
  | _, _, .nil => by
    show rk [head] = 0 + 1
    rw [rk_out (L := []) (v := head) (fun z => hj (z j))]; rfl
  | _, _, .cons (r := r) (s := s) (R := R) (S := S) c q => by
    have ih := rk_clr hj q
    have hm : Spn (R ++ [head]) head := Spn.mem (by simp)
    have iff : Spn (R ++ [head]) r ↔ Spn S s := by
      constructor
      · intro h
        have h1 : Spn (R ++ [head]) s := clr_out c hm h
        -- over S and head
        have h2 : Spn (head :: S) s := Spn.sub_of (fun v hv => by
          have hh : Spn (head :: S) head := Spn.mem List.mem_cons_self
          rcases List.mem_append.mp hv with z | z
          · exact q.bwd hh (fun u hu => Spn.mem (List.mem_cons_of_mem _ hu)) v z
          · have : v = head := by simpa using z
            rw [this]; exact hh) h1
        obtain ⟨d, h3⟩ := h2
        have h4 := spn_van q.van h3
        have h5 := c.z
        have hd : d = 0 := by grind
        exact h3.congr fun i => by rw [hd]; grind
      · intro h
        have h1 : Spn (R ++ [head]) s := Spn.sub_of (fun v hv => q.fwd hm (fun u hu => Spn.mem (List.mem_append_left _ hu)) v hv) h
        exact clr_in c hm h1
    rw [List.cons_append]
    by_cases h : Spn S s
    · rw [rk_in (iff.mpr h), rk_in h, ih]
    · rw [rk_out (fun z => h (iff.mp z)), rk_out h, ih]
/-- a step: the head may stand anywhere -/
theorem rk_elim {A B : List Vec} {head : Vec} {j : Nat} {S : List Vec} (hj : head j ≠ 0) (c : ClrAll head j (A ++ B) S) : rk (A ++ head :: B) = rk S + 1 := by
  rw [← rk_clr hj c]
  refine rk_perm ?_
  rw [List.append_assoc]
  exact List.Perm.append_left A (by simpa using (List.perm_append_comm (l₁ := [head]) (l₂ := B)))
end RK
/-! M2: fractions as pairs, rows of integers, elimination. Pure mathematics, no program. -/
namespace RK
theorem castZ {a b : Int} (h : (a : Rat) = (b : Rat)) : a = b := Rat.intCast_inj.mp h
theorem cast_ne {a : Int} (h : a ≠ 0) : (a : Rat) ≠ 0 := fun z => h (castZ (by rw [z]; rfl))
def val (x : Int × Int) : Rat := (x.1 : Rat) / (x.2 : Rat)
structure Nf (x : Int × Int) : Prop where
  pos : 0 < x.2
  cop : Nat.gcd x.1.natAbs x.2.natAbs = 1
theorem val_eq {x y : Int × Int} (hx : x.2 ≠ 0) (hy : y.2 ≠ 0) : val x = val y ↔ x.1 * y.2 = y.1 * x.2 := by
  have h1 := cast_ne hx
  have h2 := cast_ne hy
  unfold val
  constructor
  · intro h
    refine castZ ?_
    rw [Rat.intCast_mul, Rat.intCast_mul]
    grind
  · intro h
    have : ((x.1 * y.2 : Int) : Rat) = ((y.1 * x.2 : Int) : Rat) := by rw [h]
    rw [Rat.intCast_mul, Rat.intCast_mul] at this
    grind
theorem nf_uniq {x y : Int × Int} (hx : Nf x) (hy : Nf y) (h : val x = val y) : x = y := by
  have px := hx.pos
  have py := hy.pos
  have e := (val_eq (by omega) (by omega)).mp h
  have e2 : x.1.natAbs * y.2.natAbs = y.1.natAbs * x.2.natAbs := by rw [← Int.natAbs_mul, ← Int.natAbs_mul, e]
  have c1 : Nat.Coprime x.2.natAbs x.1.natAbs := by rw [Nat.coprime_comm]; exact hx.cop
  have c2 : Nat.Coprime y.2.natAbs y.1.natAbs := by rw [Nat.coprime_comm]; exact hy.cop
  have d1 : x.2.natAbs ∣ y.2.natAbs := c1.dvd_of_dvd_mul_left (by rw [e2]; exact Nat.dvd_mul_left _ _)
  have d2 : y.2.natAbs ∣ x.2.natAbs := c2.dvd_of_dvd_mul_left (by rw [← e2]; exact Nat.dvd_mul_left _ _)
  have e3 : x.2 = y.2 := by
    have := Nat.dvd_antisymm d1 d2
    omega
  have e4 : x.1 = y.1 := by
    rw [e3] at e
    exact Int.eq_of_mul_eq_mul_right (by omega) e
  exact Prod.ext e4 e3
/-- a fraction put lowest, the divisor of the sign of what is beneath -/
def low (a b : Int) : Int × Int := (a.fdiv (Nat.gcd a.natAbs b.natAbs : Nat), b.fdiv (Nat.gcd a.natAbs b.natAbs : Nat))
theorem fdiv_gcd {a : Int} {g : Nat} (hg : 0 < g) (h : g ∣ a.natAbs) : a.fdiv g * g = a := by
  have h1 : (g : Int) ∣ a := Int.ofNat_dvd_left.mpr h
  exact Int.fdiv_mul_cancel h1
theorem low_mul {a b : Int} (hb : b ≠ 0) : (low a b).1 * (Nat.gcd a.natAbs b.natAbs : Nat) = a ∧ (low a b).2 * (Nat.gcd a.natAbs b.natAbs : Nat) = b := by
  have hg : 0 < Nat.gcd a.natAbs b.natAbs := Nat.gcd_pos_of_pos_right _ (by omega)
  exact ⟨fdiv_gcd hg (Nat.gcd_dvd_left _ _), fdiv_gcd hg (Nat.gcd_dvd_right _ _)⟩
theorem low_val {a b : Int} (hb : b ≠ 0) : val (low a b) = (a : Rat) / (b : Rat) := by
  obtain ⟨h1, h2⟩ := low_mul (a := a) hb
  have hg : 0 < Nat.gcd a.natAbs b.natAbs := Nat.gcd_pos_of_pos_right _ (by omega)
  have h3 : (low a b).2 ≠ 0 := fun z => hb (by rw [← h2, z]; simp)
  have : val (low a b) = val (a, b) := (val_eq h3 hb).mpr (by
    show (low a b).1 * b = a * (low a b).2
    have key : ∀ u v g a b : Int, u * g = a → v * g = b → u * b = a * v := fun u v g a b e1 e2 => by rw [← e1, ← e2]; grind
    exact key _ _ _ _ _ h1 h2)
  exact this
theorem low_nf {a b : Int} (hb : 0 < b) : Nf (low a b) := by
  obtain ⟨h1, h2⟩ := low_mul (a := a) (b := b) (by omega)
  have hg : 0 < Nat.gcd a.natAbs b.natAbs := Nat.gcd_pos_of_pos_right _ (by omega)
  constructor
  · have hb2 : 0 < (low a b).2 * (Nat.gcd a.natAbs b.natAbs : Nat) := by rw [h2]; exact hb
    exact Int.pos_of_mul_pos_left hb2 (by omega)
  · have e1 : (low a b).1.natAbs * Nat.gcd a.natAbs b.natAbs = a.natAbs := by
      have := congrArg Int.natAbs h1
      rw [Int.natAbs_mul, Int.natAbs_natCast] at this
      exact this
    have e2 : (low a b).2.natAbs * Nat.gcd a.natAbs b.natAbs = b.natAbs := by
      have := congrArg Int.natAbs h2
      rw [Int.natAbs_mul, Int.natAbs_natCast] at this
      exact this
    have e3 : Nat.gcd (low a b).1.natAbs (low a b).2.natAbs * Nat.gcd a.natAbs b.natAbs = Nat.gcd a.natAbs b.natAbs := by
      rw [← Nat.gcd_mul_right, e1, e2]
    exact Nat.eq_of_mul_eq_mul_right hg (by rw [e3, Nat.one_mul])
/-- sums and products of fractions, put lowest -/
def fplus (x y : Int × Int) : Int × Int := low (x.1 * y.2 + y.1 * x.2) (x.2 * y.2)
def ftimes (x y : Int × Int) : Int × Int := low (x.1 * y.1) (x.2 * y.2)
theorem fplus_val {x y : Int × Int} (hx : 0 < x.2) (hy : 0 < y.2) : val (fplus x y) = val x + val y := by
  have h := Int.mul_pos hx hy
  have h1 := cast_ne (show x.2 ≠ 0 by omega)
  have h2 := cast_ne (show y.2 ≠ 0 by omega)
  unfold fplus
  rw [low_val (by omega), Rat.intCast_add, Rat.intCast_mul, Rat.intCast_mul, Rat.intCast_mul]
  unfold val
  grind
theorem ftimes_val {x y : Int × Int} (hx : 0 < x.2) (hy : 0 < y.2) : val (ftimes x y) = val x * val y := by
  have h := Int.mul_pos hx hy
  have h1 := cast_ne (show x.2 ≠ 0 by omega)
  have h2 := cast_ne (show y.2 ≠ 0 by omega)
  unfold ftimes
  rw [low_val (by omega), Rat.intCast_mul, Rat.intCast_mul]
  unfold val
  grind
theorem fplus_nf {x y : Int × Int} (hx : 0 < x.2) (hy : 0 < y.2) : Nf (fplus x y) := low_nf (Int.mul_pos hx hy)
theorem ftimes_nf {x y : Int × Int} (hx : 0 < x.2) (hy : 0 < y.2) : Nf (ftimes x y) := low_nf (Int.mul_pos hx hy)
def fsum (l : List (Int × Int)) : Int × Int := l.foldl fplus (0, 1)
theorem nf_zero : Nf (0, 1) := ⟨by decide, by decide⟩
theorem val_int (n : Int) : val (n, 1) = (n : Rat) := by
  unfold val
  show (n : Rat) / ((1 : Int) : Rat) = n
  rw [show ((1 : Int) : Rat) = 1 from rfl]
  grind
theorem nf_int (n : Int) : Nf (n, 1) := ⟨by show (0 : Int) < 1; decide, by show Nat.gcd n.natAbs 1 = 1; simp⟩
/-- the sum of values -/
def rsum (l : List Rat) : Rat := l.foldr (· + ·) 0
theorem fsum_go : ∀ (l : List (Int × Int)) (x : Int × Int), Nf x → (∀ y ∈ l, 0 < y.2) → Nf (l.foldl fplus x) ∧ val (l.foldl fplus x) = val x + rsum (l.map val)
  | [], x, hx, _ => ⟨hx, by show val x = val x + 0; grind⟩
  | y :: l, x, hx, hl => by
    have hy := hl y List.mem_cons_self
    obtain ⟨h1, h2⟩ := fsum_go l (fplus x y) (fplus_nf hx.pos hy) fun z hz => hl z (List.mem_cons_of_mem _ hz)
    refine ⟨h1, ?_⟩
    rw [List.foldl_cons, h2, fplus_val hx.pos hy]
    show _ = val x + (val y + rsum (l.map val))
    grind
theorem fsum_val {l : List (Int × Int)} (hl : ∀ y ∈ l, 0 < y.2) : Nf (fsum l) ∧ val (fsum l) = rsum (l.map val) := by
  obtain ⟨h1, h2⟩ := fsum_go l (0, 1) nf_zero hl
  refine ⟨h1, ?_⟩
  rw [show fsum l = l.foldl fplus (0, 1) from rfl, h2, val_int]
  show ((0 : Int) : Rat) + _ = _
  rw [show ((0 : Int) : Rat) = 0 from rfl]
  grind
end RK
/-! M3: elimination counts the rank. -/
namespace RK
/-- an elimination: rows, what they stand for, how one is cleared by another -/
structure Elm (α : Type) where
  vec : α → Vec
  ok : α → Prop
  nz : Nat → α → Bool
  clr : α → α → Nat → α
  nz_iff : ∀ {r : α} {j : Nat}, ok r → (nz j r = true ↔ vec r j ≠ 0)
  clr_ok : ∀ {r h : α} {j : Nat}, ok r → ok h → vec h j ≠ 0 → Clr (vec h) j (vec r) (vec (clr r h j)) ∧ ok (clr r h j)
section
variable {α : Type} (E : Elm α)
/-- the rows behind a place, how many heads were found -/
def Elm.step (j : Nat) (s : List α × List α) : List α × List α := match s.1.findIdx? (E.nz j) with
  | none => s
  | some at_ => match s.1[at_]? with
    | none => s
    | some h => ((s.1.take at_ ++ s.1.drop (at_ + 1)).map fun r => E.clr r h j, s.2 ++ [h])
def Elm.run (w : Nat) (rows : List α) : List α × List α := (List.range w).foldl (fun s j => E.step j s) (rows, [])
theorem clr_all {h : α} {j : Nat} (hh : E.ok h) (hj : E.vec h j ≠ 0) : ∀ {L : List α}, (∀ r ∈ L, E.ok r) → ClrAll (E.vec h) j (L.map E.vec) ((L.map fun r => E.clr r h j).map E.vec)
  | [], _ => .nil
  | r :: L, hr => .cons (E.clr_ok (hr r List.mem_cons_self) hh hj).1 (clr_all hh hj fun u hu => hr u (List.mem_cons_of_mem _ hu))
theorem step_rk {j : Nat} {s : List α × List α} (hok : ∀ r ∈ s.1, E.ok r) (hz : ∀ r ∈ s.1, ∀ i, i < j → E.vec r i = 0) :
    (∀ r ∈ (E.step j s).1, E.ok r) ∧ (∀ r ∈ (E.step j s).1, ∀ i, i < j + 1 → E.vec r i = 0) ∧ (E.step j s).2.length + rk ((E.step j s).1.map E.vec) = s.2.length + rk (s.1.map E.vec) := by
  unfold Elm.step
  cases e : s.1.findIdx? (E.nz j) with
  | none =>
    rw [List.findIdx?_eq_none_iff] at e
    refine ⟨hok, fun r hr i hi => ?_, rfl⟩
    by_cases hij : i = j
    · subst hij
      have := e r hr
      exact Classical.byContradiction fun n => by rw [(E.nz_iff (hok r hr)).mpr n] at this; cases this
    · exact hz r hr i (by omega)
  | some at_ =>
    obtain ⟨hlt, hp, _⟩ := List.findIdx?_eq_some_iff_getElem.mp e
    have hget : s.1[at_]? = some s.1[at_] := List.getElem?_eq_getElem hlt
    dsimp only
    rw [hget]
    dsimp only
    have hm : s.1[at_] ∈ s.1 := List.getElem_mem hlt
    have hh := hok _ hm
    have hj : E.vec s.1[at_] j ≠ 0 := (E.nz_iff hh).mp hp
    have hsub : ∀ r ∈ s.1.take at_ ++ s.1.drop (at_ + 1), r ∈ s.1 := fun r hr => by
      rcases List.mem_append.mp hr with q | q
      · exact List.mem_of_mem_take q
      · exact List.mem_of_mem_drop q
    refine ⟨fun r hr => ?_, fun r hr i hi => ?_, ?_⟩
    · obtain ⟨u, hu, rfl⟩ := List.mem_map.mp hr
      exact (E.clr_ok (hok u (hsub u hu)) hh hj).2
    · obtain ⟨u, hu, rfl⟩ := List.mem_map.mp hr
      have c := (E.clr_ok (hok u (hsub u hu)) hh hj).1
      by_cases hij : i = j
      · subst hij; exact c.z
      · obtain ⟨a, b, _, ex⟩ := c.ex
        have z1 := hz u (hsub u hu) i (by omega)
        have z2 := hz _ hm i (by omega)
        have := ex i
        grind
    · have hca := clr_all E hh hj (L := s.1.take at_ ++ s.1.drop (at_ + 1)) fun r hr => hok r (hsub r hr)
      rw [List.map_append] at hca
      have h1 := rk_elim hj hca
      have h2 : s.1.map E.vec = (s.1.take at_).map E.vec ++ E.vec s.1[at_] :: (s.1.drop (at_ + 1)).map E.vec := by
        conv => lhs; rw [← List.take_append_drop at_ s.1, List.map_append, List.drop_eq_getElem_cons hlt, List.map_cons]
      rw [h2, h1, List.length_append]
      simp
      omega
theorem run_rk {w : Nat} {rows : List α} (hok : ∀ r ∈ rows, E.ok r) (hw : ∀ r, E.ok r → ∀ i, w ≤ i → E.vec r i = 0) : (E.run w rows).2.length = rk (rows.map E.vec) := by
  have key : ∀ n, (∀ r ∈ ((List.range n).foldl (fun s j => E.step j s) (rows, ([] : List α))).1, E.ok r) ∧ (∀ r ∈ ((List.range n).foldl (fun s j => E.step j s) (rows, ([] : List α))).1, ∀ i, i < n → E.vec r i = 0) ∧
      ((List.range n).foldl (fun s j => E.step j s) (rows, ([] : List α))).2.length + rk (((List.range n).foldl (fun s j => E.step j s) (rows, ([] : List α))).1.map E.vec) = rk (rows.map E.vec) := by
    intro n
    induction n with
    | zero => exact ⟨hok, fun _ _ i hi => absurd hi (Nat.not_lt_zero _), by simp⟩
    | succ n ih =>
      obtain ⟨h1, h2, h3⟩ := ih
      rw [List.range_succ, List.foldl_append]
      obtain ⟨k1, k2, k3⟩ := step_rk E (j := n) h1 h2
      exact ⟨k1, k2, k3.trans h3⟩
  obtain ⟨h1, h2, h3⟩ := key w
  have hz : rk ((E.run w rows).1.map E.vec) = 0 := rk_zero fun v hv i => by
    obtain ⟨u, hu, rfl⟩ := List.mem_map.mp hv
    by_cases hi : i < w
    · exact h2 u hu i hi
    · exact hw u (h1 u hu) i (by omega)
  have : (E.run w rows).2.length + rk ((E.run w rows).1.map E.vec) = rk (rows.map E.vec) := h3
  omega
end
/-! ### rows of integers -/
def vi (r : List Int) : Vec := fun j => ((r.getD j 0 : Int) : Rat)
def cpart (a b : Int) : Int := (Nat.gcd a.natAbs b.natAbs : Nat)
def rowGcd (row : List Int) : Int := row.foldl (fun c x => if x ≠ 0 then cpart c x else c) 0
def plainRow (row : List Int) : List Int := if 1 < rowGcd row then row.map fun x => x.fdiv (rowGcd row) else row
def combRow (row head : List Int) (j : Nat) : List Int := (row.zip head).map fun z => head.getD j 0 * z.1 - row.getD j 0 * z.2
def cleared (row head : List Int) (j : Nat) : List Int := if row.getD j 0 = 0 then row else plainRow (combRow row head j)
theorem cpart_dvd (a b : Int) : cpart a b ∣ a ∧ cpart a b ∣ b := ⟨Int.ofNat_dvd_left.mpr (Nat.gcd_dvd_left _ _), Int.ofNat_dvd_left.mpr (Nat.gcd_dvd_right _ _)⟩
theorem gcd_go : ∀ (row : List Int) (c : Int), (row.foldl (fun c x => if x ≠ 0 then cpart c x else c) c ∣ c) ∧ ∀ x ∈ row, row.foldl (fun c x => if x ≠ 0 then cpart c x else c) c ∣ x
  | [], c => ⟨Int.dvd_refl _, fun _ h => absurd h (by simp)⟩
  | y :: row, c => by
    rw [List.foldl_cons]
    obtain ⟨h1, h2⟩ := gcd_go row (if y ≠ 0 then cpart c y else c)
    by_cases hy : y ≠ 0
    · rw [if_pos hy] at h1 h2 ⊢
      refine ⟨Int.dvd_trans h1 (cpart_dvd c y).1, fun x hx => ?_⟩
      rcases List.mem_cons.mp hx with rfl | hx
      · exact Int.dvd_trans h1 (cpart_dvd c x).2
      · exact h2 x hx
    · rw [if_neg hy] at h1 h2 ⊢
      refine ⟨h1, fun x hx => ?_⟩
      rcases List.mem_cons.mp hx with rfl | hx
      · have : x = 0 := Classical.byContradiction hy
        rw [this]; exact Int.dvd_zero _
      · exact h2 x hx
theorem rowGcd_dvd {row : List Int} {x : Int} (h : x ∈ row) : rowGcd row ∣ x := (gcd_go row 0).2 x h
theorem getD_map {f : Int → Int} (h0 : f 0 = 0) : ∀ (r : List Int) (i : Nat), (r.map f).getD i 0 = f (r.getD i 0)
  | [], i => by simp [h0]
  | x :: r, 0 => by simp
  | x :: r, i + 1 => by
    have := getD_map h0 r i
    simpa using this
theorem getD_dvd {g : Int} {r : List Int} (h : ∀ x ∈ r, g ∣ x) (i : Nat) : g ∣ r.getD i 0 := by
  rw [List.getD_eq_getElem?_getD]
  cases e : r[i]? with
  | none => exact Int.dvd_zero _
  | some x => exact h x (List.mem_of_getElem? e)
theorem plain_vi (row : List Int) : ∃ c : Rat, c ≠ 0 ∧ ∀ i, vi (plainRow row) i = c * vi row i := by
  unfold plainRow
  by_cases h : 1 < rowGcd row
  · rw [if_pos h]
    have hg : rowGcd row ≠ 0 := by omega
    have hg2 := cast_ne hg
    refine ⟨1 / (rowGcd row : Rat), by grind, fun i => ?_⟩
    unfold vi
    rw [getD_map (f := fun x => x.fdiv (rowGcd row)) (by simp)]
    have e := Int.fdiv_mul_cancel (getD_dvd (r := row) (g := rowGcd row) (fun x hx => rowGcd_dvd hx) i)
    have e2 := congrArg (fun z : Int => (z : Rat)) e
    rw [Rat.intCast_mul] at e2
    grind
  · rw [if_neg h]
    exact ⟨1, by grind, fun i => by grind⟩
theorem comb_get {row head : List Int} {j : Nat} (hl : row.length = head.length) (i : Nat) : (combRow row head j).getD i 0 = head.getD j 0 * row.getD i 0 - row.getD j 0 * head.getD i 0 := by
  unfold combRow
  rw [List.getD_eq_getElem?_getD, List.getD_eq_getElem?_getD (l := row) (i := i), List.getD_eq_getElem?_getD (l := head) (i := i), List.getElem?_map]
  by_cases hi : i < row.length
  · have hi2 : i < head.length := by omega
    have : (row.zip head)[i]? = some (row[i], head[i]) := by
      rw [List.getElem?_eq_getElem (by rw [List.length_zip]; omega), List.getElem_zip]
    rw [this, List.getElem?_eq_getElem hi, List.getElem?_eq_getElem hi2]
    rfl
  · have h1 : (row.zip head)[i]? = none := by rw [List.getElem?_eq_none_iff, List.length_zip]; omega
    have h2 : row[i]? = none := by rw [List.getElem?_eq_none_iff]; omega
    have h3 : head[i]? = none := by rw [List.getElem?_eq_none_iff]; omega
    rw [h1, h2, h3]
    simp
theorem plain_len (row : List Int) : (plainRow row).length = row.length := by unfold plainRow; split <;> simp
theorem cleared_len {row head : List Int} {j : Nat} (hl : row.length = head.length) : (cleared row head j).length = row.length := by
  unfold cleared
  split
  · rfl
  · rw [plain_len]; unfold combRow; rw [List.length_map, List.length_zip]; omega
theorem cleared_clr {row head : List Int} {j : Nat} (hl : row.length = head.length) (hj : vi head j ≠ 0) : Clr (vi head) j (vi row) (vi (cleared row head j)) := by
  unfold cleared
  by_cases h : row.getD j 0 = 0
  · rw [if_pos h]
    exact ⟨⟨1, 0, by grind, fun i => by grind⟩, by unfold vi; rw [h]; rfl⟩
  · rw [if_neg h]
    obtain ⟨c, hc, e⟩ := plain_vi (combRow row head j)
    have e2 : ∀ i, vi (combRow row head j) i = vi head j * vi row i - vi row j * vi head i := fun i => by
      unfold vi
      rw [comb_get hl, Rat.intCast_sub, Rat.intCast_mul, Rat.intCast_mul]
    refine ⟨⟨c * vi head j, c * vi row j, by grind, fun i => ?_⟩, ?_⟩
    · rw [e, e2]; grind
    · rw [e, e2]; grind
/-- the elimination of the integers' rows of width w -/
def EI (w : Nat) : Elm (List Int) where
  vec := vi
  ok r := r.length = w
  nz j r := decide (r.getD j 0 ≠ 0)
  clr := cleared
  nz_iff {r j} _ := by
    rw [decide_eq_true_iff]
    unfold vi
    exact ⟨cast_ne, fun h z => h (by rw [z]; rfl)⟩
  clr_ok {r h j} hr hh hj := ⟨cleared_clr (by rw [hr, hh]) hj, by rw [cleared_len (by rw [hr, hh]), hr]⟩
def intRank (rows : List (List Int)) : Nat := ((EI (rows.headD []).length).run (rows.headD []).length rows).2.length
theorem vi_out {r : List Int} {i : Nat} (h : r.length ≤ i) : vi r i = 0 := by
  unfold vi
  rw [List.getD_eq_getElem?_getD, List.getElem?_eq_none_iff.mpr h]
  rfl
theorem intRank_eq {rows : List (List Int)} {w : Nat} (hw : ∀ r ∈ rows, r.length = w) : intRank rows = rk (rows.map vi) := by
  cases rows with
  | nil => rfl
  | cons r rows =>
    have h0 : r.length = w := hw r List.mem_cons_self
    show ((EI r.length).run r.length (r :: rows)).2.length = _
    exact run_rk (EI r.length) (fun u hu => by show u.length = r.length; rw [hw u hu, h0]) fun u hu i hi => vi_out (by rw [show u.length = r.length from hu]; exact hi)
/-! ### rows of fractions -/
def vf (r : List (Int × Int)) : Vec := fun j => val (r.getD j (0, 1))
def lessBy (row key : List (Int × Int)) (j : Nat) : Int × Int :=
  let by_ := low (0 - (row.getD j (0, 1)).1 * (key.getD j (0, 1)).2) ((row.getD j (0, 1)).2 * ((key.getD j (0, 1)).1.natAbs : Int))
  if 0 < (key.getD j (0, 1)).1 then by_ else (0 - by_.1, by_.2)
def lawLess (row key : List (Int × Int)) (j : Nat) : List (Int × Int) := (row.zip key).map fun z => fplus z.1 (ftimes (lessBy row key j) z.2)
theorem getD_pos {r : List (Int × Int)} (h : ∀ x ∈ r, 0 < x.2) (i : Nat) : 0 < (r.getD i (0, 1)).2 := by
  rw [List.getD_eq_getElem?_getD]
  cases e : r[i]? with
  | none => show (0 : Int) < 1; decide
  | some x => exact h x (List.mem_of_getElem? e)
theorem lessBy_ok {row key : List (Int × Int)} {j : Nat} (hr : ∀ x ∈ row, 0 < x.2) (hk : ∀ x ∈ key, 0 < x.2) (hj : vf key j ≠ 0) : 0 < (lessBy row key j).2 ∧ val (lessBy row key j) = - (vf row j / vf key j) := by
  have p1 := getD_pos hr j
  have p2 := getD_pos hk j
  unfold vf at hj ⊢
  unfold lessBy
  generalize row.getD j (0, 1) = x at p1 ⊢
  generalize key.getD j (0, 1) = y at p2 hj ⊢
  have hy : y.1 ≠ 0 := fun z => hj (by unfold val; rw [z]; show ((0 : Int) : Rat) / _ = 0; rw [show ((0 : Int) : Rat) = 0 from rfl]; grind)
  have hq : 0 < x.2 * (y.1.natAbs : Int) := Int.mul_pos p1 (by omega)
  have nf := low_nf (a := 0 - x.1 * y.2) hq
  have hv := low_val (a := 0 - x.1 * y.2) (show x.2 * (y.1.natAbs : Int) ≠ 0 by omega)
  have cx := cast_ne (show x.2 ≠ 0 by omega)
  have cy := cast_ne (show y.2 ≠ 0 by omega)
  have cy1 := cast_ne hy
  rw [Rat.intCast_sub, Rat.intCast_mul, Rat.intCast_mul, show ((0 : Int) : Rat) = 0 from rfl] at hv
  dsimp only
  by_cases h : 0 < y.1
  · rw [if_pos h]
    refine ⟨nf.pos, ?_⟩
    rw [hv, show (y.1.natAbs : Int) = y.1 by omega]
    unfold val
    grind
  · rw [if_neg h]
    refine ⟨nf.pos, ?_⟩
    have e : val (0 - (low (0 - x.1 * y.2) (x.2 * (y.1.natAbs : Int))).1, (low (0 - x.1 * y.2) (x.2 * (y.1.natAbs : Int))).2) = - val (low (0 - x.1 * y.2) (x.2 * (y.1.natAbs : Int))) := by
      unfold val
      dsimp only
      rw [Rat.intCast_sub, show ((0 : Int) : Rat) = 0 from rfl]
      have := cast_ne (show (low (0 - x.1 * y.2) (x.2 * (y.1.natAbs : Int))).2 ≠ 0 by have := nf.pos; omega)
      grind
    rw [e, hv, show (y.1.natAbs : Int) = - y.1 by omega, Rat.intCast_neg]
    unfold val
    grind
theorem less_get {row key : List (Int × Int)} {j : Nat} (hl : row.length = key.length) (i : Nat) (hi : i < row.length) : (lawLess row key j).getD i (0, 1) = fplus (row.getD i (0, 1)) (ftimes (lessBy row key j) (key.getD i (0, 1))) := by
  unfold lawLess
  have hi2 : i < key.length := by omega
  have : (row.zip key)[i]? = some (row[i], key[i]) := by
    rw [List.getElem?_eq_getElem (by rw [List.length_zip]; omega), List.getElem_zip]
  rw [List.getD_eq_getElem?_getD, List.getD_eq_getElem?_getD (l := row), List.getD_eq_getElem?_getD (l := key), List.getElem?_map, this, List.getElem?_eq_getElem hi, List.getElem?_eq_getElem hi2]
  rfl
theorem vf_out {r : List (Int × Int)} {i : Nat} (h : r.length ≤ i) : vf r i = 0 := by
  unfold vf
  rw [List.getD_eq_getElem?_getD, List.getElem?_eq_none_iff.mpr h]
  show val (0, 1) = 0
  rw [val_int]; rfl
theorem less_len {row key : List (Int × Int)} {j : Nat} (hl : row.length = key.length) : (lawLess row key j).length = row.length := by
  unfold lawLess; rw [List.length_map, List.length_zip]; omega
theorem less_nf {row key : List (Int × Int)} {j : Nat} (hr : ∀ x ∈ row, 0 < x.2) (hk : ∀ x ∈ key, 0 < x.2) (hj : vf key j ≠ 0) : ∀ x ∈ lawLess row key j, Nf x := fun x hx => by
  obtain ⟨z, hz, rfl⟩ := List.mem_map.mp hx
  obtain ⟨z1, z2⟩ := List.of_mem_zip (a := z.1) (b := z.2) hz
  exact fplus_nf (hr _ z1) (ftimes_nf (lessBy_ok hr hk hj).1 (hk _ z2)).pos
theorem less_clr {row key : List (Int × Int)} {j : Nat} (hl : row.length = key.length) (hr : ∀ x ∈ row, 0 < x.2) (hk : ∀ x ∈ key, 0 < x.2) (hj : vf key j ≠ 0) : Clr (vf key) j (vf row) (vf (lawLess row key j)) := by
  obtain ⟨hp, hv⟩ := lessBy_ok (row := row) hr hk hj
  have e : ∀ i, vf (lawLess row key j) i = vf row i - (vf row j / vf key j) * vf key i := fun i => by
    by_cases hi : i < row.length
    · have h1 := less_get (j := j) hl i hi
      show val ((lawLess row key j).getD i (0, 1)) = _
      rw [h1, fplus_val (getD_pos hr i) (ftimes_nf hp (getD_pos hk i)).pos, ftimes_val hp (getD_pos hk i), hv]
      show vf row i + - (vf row j / vf key j) * vf key i = _
      grind
    · rw [vf_out (r := lawLess row key j) (i := i) (by rw [less_len hl]; omega), vf_out (r := row) (i := i) (by omega), vf_out (r := key) (i := i) (by omega)]
      grind
  refine ⟨⟨1, vf row j / vf key j, by grind, fun i => by rw [e]; grind⟩, ?_⟩
  rw [e]; grind
/-- the elimination of the fractions' rows of width w -/
def EF (w : Nat) : Elm (List (Int × Int)) where
  vec := vf
  ok r := r.length = w ∧ ∀ x ∈ r, 0 < x.2
  nz j r := decide ((r.getD j (0, 1)).1 ≠ 0)
  clr := lawLess
  nz_iff {r j} h := by
    rw [decide_eq_true_iff]
    have p := getD_pos h.2 j
    unfold vf val
    have c := cast_ne (show (r.getD j (0, 1)).2 ≠ 0 by omega)
    constructor
    · intro h1
      have := cast_ne h1
      grind
    · intro h1 z
      rw [z] at h1
      exact h1 (by rw [show ((0 : Int) : Rat) = 0 from rfl]; grind)
  clr_ok {r h j} hr hh hj := ⟨less_clr (by rw [hr.1, hh.1]) hr.2 hh.2 hj, by rw [less_len (by rw [hr.1, hh.1])]; exact hr.1, fun x hx => (less_nf hr.2 hh.2 hj x hx).pos⟩
def putOut (rows : List (List (Int × Int))) : List (List (Int × Int)) := ((EF (rows.headD []).length).run (rows.headD []).length rows).2
def lawRank (rows : List (List (Int × Int))) : Nat := (putOut rows).length
theorem lawRank_eq {rows : List (List (Int × Int))} {w : Nat} (hw : ∀ r ∈ rows, r.length = w) (hp : ∀ r ∈ rows, ∀ x ∈ r, 0 < x.2) : lawRank rows = rk (rows.map vf) := by
  cases rows with
  | nil => rfl
  | cons r rows =>
    have h0 : r.length = w := hw r List.mem_cons_self
    show ((EF r.length).run r.length (r :: rows)).2.length = _
    exact run_rk (EF r.length) (fun u hu => ⟨by rw [hw u hu, h0], hp u hu⟩) fun u hu i hi => vf_out (by rw [hu.1]; exact hi)
/-- integers as fractions -/
def plainF (r : List Int) : List (Int × Int) := r.map fun n => (n, 1)
theorem vf_plain (r : List Int) : vf (plainF r) = vi r := funext fun i => by
  unfold vf vi plainF
  rw [List.getD_eq_getElem?_getD, List.getD_eq_getElem?_getD, List.getElem?_map]
  cases r[i]? with
  | none => exact val_int 0
  | some n => exact val_int n
theorem ranks_eq {rows : List (List Int)} {w : Nat} (hw : ∀ r ∈ rows, r.length = w) : lawRank (rows.map plainF) = intRank rows := by
  rw [intRank_eq hw, lawRank_eq (w := w) (fun r hr => by
    obtain ⟨u, hu, rfl⟩ := List.mem_map.mp hr
    unfold plainF; rw [List.length_map]; exact hw u hu) (fun r hr x hx => by
    obtain ⟨u, hu, rfl⟩ := List.mem_map.mp hr
    obtain ⟨n, _, rfl⟩ := List.mem_map.mp hx
    show (0 : Int) < 1; decide), List.map_map]
  congr 1
  exact List.map_congr_left fun r _ => vf_plain r
end RK
/-! M4: lots, excesses. -/
namespace RK
/-- all lots, in the sequence in which they are told -/
def lotsOf : Nat → List (List Int)
  | 0 => [[]]
  | n + 1 => lotsOf n ++ (lotsOf n).map fun l => l ++ [(n : Int)]
abbrev Asc (l : List Int) : Prop := l.Pairwise (· < ·)
theorem lots_mem : ∀ {n : Nat} {l : List Int}, l ∈ lotsOf n ↔ Asc l ∧ ∀ x ∈ l, 0 ≤ x ∧ x < n
  | 0, l => by
    show l ∈ [[]] ↔ _
    constructor
    · intro h
      have : l = [] := by simpa using h
      subst this
      exact ⟨.nil, fun _ h => absurd h (by simp)⟩
    · intro ⟨_, h⟩
      cases l with
      | nil => simp
      | cons x l => have := h x List.mem_cons_self; omega
  | n + 1, l => by
    show l ∈ lotsOf n ++ (lotsOf n).map (fun l => l ++ [(n : Int)]) ↔ _
    rw [List.mem_append, List.mem_map]
    constructor
    · rintro (h | ⟨m, h, rfl⟩)
      · obtain ⟨h1, h2⟩ := lots_mem.mp h
        exact ⟨h1, fun x hx => by have := h2 x hx; omega⟩
      · obtain ⟨h1, h2⟩ := lots_mem.mp h
        refine ⟨List.pairwise_append.mpr ⟨h1, List.pairwise_singleton _ _, fun a ha b hb => ?_⟩, fun x hx => ?_⟩
        · have : b = n := by simpa using hb
          have := h2 a ha
          omega
        · rcases List.mem_append.mp hx with q | q
          · have := h2 x q; omega
          · have : x = n := by simpa using q
            omega
    · intro ⟨h1, h2⟩
      by_cases hn : (n : Int) ∈ l
      · right
        -- it stands last
        have hne : l ≠ [] := fun z => by rw [z] at hn; cases hn
        have hl := List.dropLast_concat_getLast hne
        have hlast : l.getLast hne = n := by
          have hm := List.getLast_mem hne
          have h3 := h2 _ hm
          by_cases e : l.getLast hne = n
          · exact e
          · exfalso
            rw [← hl] at h1 hn
            have h4 := (List.pairwise_append.mp h1).2.2
            rcases List.mem_append.mp hn with q | q
            · have := h4 _ q (l.getLast hne) (by simp); omega
            · have : (n : Int) = l.getLast hne := by simpa using q
              exact e this.symm
        refine ⟨l.dropLast, lots_mem.mpr ⟨?_, fun x hx => ?_⟩, by rw [← hlast]; exact hl⟩
        · rw [← hl] at h1
          exact (List.pairwise_append.mp h1).1
        · have h5 := h2 x (List.dropLast_subset l hx)
          rw [← hl] at h1
          have := (List.pairwise_append.mp h1).2.2 x hx (l.getLast hne) (by simp)
          omega
      · left
        refine lots_mem.mpr ⟨h1, fun x hx => ?_⟩
        have := h2 x hx
        have : x ≠ n := fun z => hn (z ▸ hx)
        omega
theorem lots_len (n : Nat) : (lotsOf n).length = 2 ^ n := by
  induction n with
  | zero => rfl
  | succ n ih =>
    show (lotsOf n ++ (lotsOf n).map fun l => l ++ [(n : Int)]).length = _
    rw [List.length_append, List.length_map, ih, Nat.pow_succ]; omega
theorem asc_nodup {l : List Int} (h : Asc l) : l.Nodup := h.imp fun h => by omega
/-! ### two lots -/
theorem perm_split (a b : List Int) : a.Perm (a.filter (fun x => !decide (x ∈ b)) ++ a.filter (fun x => decide (x ∈ b))) := by
  have := (List.filter_append_perm (fun x => decide (x ∈ b)) a).symm
  exact this.trans List.perm_append_comm
theorem union_perm {a b u : List Int} (ha : Asc a) (hb : Asc b) (hu : Asc u) (hm : ∀ x, x ∈ u ↔ x ∈ a ∨ x ∈ b) : u.Perm (a.filter (fun x => !decide (x ∈ b)) ++ b) := by
  have nd : (a.filter (fun x => !decide (x ∈ b)) ++ b).Nodup := by
    refine List.nodup_append.mpr ⟨(asc_nodup ha).filter _, asc_nodup hb, fun x hx y hy e => ?_⟩
    subst e
    have := (List.mem_filter.mp hx).2
    simp [hy] at this
  refine (List.perm_ext_iff_of_nodup (asc_nodup hu) nd).mpr fun x => ?_
  rw [hm, List.mem_append, List.mem_filter]
  by_cases h : x ∈ b
  · simp [h]
  · simp [h]
theorem rsum_perm {l m : List Rat} (p : l.Perm m) : rsum l = rsum m := by
  induction p with
  | nil => rfl
  | cons x p ih => show x + rsum _ = x + rsum _; rw [ih]
  | swap x y l => show y + (x + rsum l) = x + (y + rsum l); grind
  | trans _ _ h1 h2 => exact h1.trans h2
theorem rsum_append (l m : List Rat) : rsum (l ++ m) = rsum l + rsum m := by
  induction l with
  | nil => show rsum m = 0 + rsum m; grind
  | cons x l ih => show x + rsum (l ++ m) = x + rsum l + rsum m; rw [ih]; grind
theorem rsum_nonneg {l : List Rat} (h : ∀ x ∈ l, 0 ≤ x) : 0 ≤ rsum l := by
  induction l with
  | nil => exact Rat.le_refl
  | cons x l ih =>
    have h1 := h x List.mem_cons_self
    have h2 := ih fun y hy => h y (List.mem_cons_of_mem _ hy)
    show 0 ≤ x + rsum l
    grind
section
variable (V : Int → Vec) (wv : Int → Rat) (R : Nat) (T : Rat)
noncomputable def exc (l : List Int) : Rat := rsum (l.map wv) * (R : Rat) - T * (rk (l.map V) : Rat)
theorem exc_perm {l m : List Int} (p : l.Perm m) : exc V wv R T l = exc V wv R T m := by
  unfold exc
  rw [rsum_perm (p.map wv), rk_perm (p.map V)]
theorem natCast_le {a b : Nat} (h : a ≤ b) : (a : Rat) ≤ (b : Rat) := by
  exact_mod_cast h
/-- two lots joined, shared have at least as much excess together -/
theorem exc_super (hT : 0 ≤ T) {a b u : List Int} (ha : Asc a) (hb : Asc b) (hu : Asc u) (hm : ∀ x, x ∈ u ↔ x ∈ a ∨ x ∈ b) :
    exc V wv R T a + exc V wv R T b ≤ exc V wv R T u + exc V wv R T (a.filter fun x => decide (x ∈ b)) := by
  rw [exc_perm V wv R T (perm_split a b), exc_perm V wv R T (union_perm ha hb hu hm)]
  have g : rk ((a.filter (fun x => !decide (x ∈ b))).map V ++ b.map V) + rk ((a.filter fun x => decide (x ∈ b)).map V) ≤ rk ((a.filter (fun x => !decide (x ∈ b))).map V ++ (a.filter fun x => decide (x ∈ b)).map V) + rk (b.map V) :=
    rk_gain fun v hv => by
      obtain ⟨x, hx, rfl⟩ := List.mem_map.mp hv
      have := (List.mem_filter.mp hx).2
      exact List.mem_map_of_mem (by simpa using this)
  unfold exc
  simp only [List.map_append, rsum_append]
  generalize rk ((a.filter (fun x => !decide (x ∈ b))).map V ++ b.map V) = n1 at g ⊢
  generalize rk ((a.filter fun x => decide (x ∈ b)).map V) = n2 at g ⊢
  generalize rk ((a.filter (fun x => !decide (x ∈ b))).map V ++ (a.filter fun x => decide (x ∈ b)).map V) = n3 at g ⊢
  generalize rk (b.map V) = n4 at g ⊢
  have g3 : (n1 : Rat) + (n2 : Rat) ≤ (n3 : Rat) + (n4 : Rat) := by exact_mod_cast g
  have g4 : T * ((n1 : Rat) + (n2 : Rat)) ≤ T * ((n3 : Rat) + (n4 : Rat)) := Rat.mul_le_mul_of_nonneg_left g3 hT
  grind
end
/-! ### the least, the greatest lot -/
def insA (x : Int) : List Int → List Int
  | [] => [x]
  | y :: ys => if x < y then x :: y :: ys else if x = y then y :: ys else y :: insA x ys
theorem insA_mem {x z : Int} : ∀ {l : List Int}, z ∈ insA x l ↔ z = x ∨ z ∈ l
  | [] => by simp [insA]
  | y :: ys => by
    unfold insA
    split
    · simp
    · split
      · rename_i h; subst h; simp
      · simp only [List.mem_cons, insA_mem (l := ys)]; grind
theorem insA_asc {x : Int} : ∀ {l : List Int}, Asc l → Asc (insA x l)
  | [], _ => by simp [insA]
  | y :: ys, h => by
    obtain ⟨h1, h2⟩ := List.pairwise_cons.mp h
    unfold insA
    split
    · rename_i hx
      refine List.pairwise_cons.mpr ⟨fun z hz => ?_, h⟩
      rcases List.mem_cons.mp hz with rfl | hz
      · exact hx
      · exact Int.lt_trans hx (h1 z hz)
    · split
      · exact h
      · rename_i hn he
        refine List.pairwise_cons.mpr ⟨fun z hz => ?_, insA_asc h2⟩
        rcases insA_mem.mp hz with rfl | hz
        · omega
        · exact h1 z hz
theorem union_ex (a b : List Int) (hb : Asc b) : ∃ u, Asc u ∧ ∀ x, x ∈ u ↔ x ∈ a ∨ x ∈ b := by
  induction a with
  | nil => exact ⟨b, hb, fun x => by simp⟩
  | cons y a ih =>
    obtain ⟨u, h1, h2⟩ := ih
    exact ⟨insA y u, insA_asc h1, fun x => by rw [insA_mem, h2, List.mem_cons]; grind⟩
section
variable {V : Int → Vec} {wv : Int → Rat} {R : Nat} {T : Rat} {n : Nat} {best : Rat}
theorem both_best (hT : 0 ≤ T) (hb : ∀ l ∈ lotsOf n, exc V wv R T l ≤ best) {a b u : List Int} (ha : a ∈ lotsOf n) (hbm : b ∈ lotsOf n) (ea : exc V wv R T a = best) (eb : exc V wv R T b = best) (hu : Asc u) (hm : ∀ x, x ∈ u ↔ x ∈ a ∨ x ∈ b) :
    u ∈ lotsOf n ∧ exc V wv R T u = best ∧ (a.filter fun x => decide (x ∈ b)) ∈ lotsOf n ∧ exc V wv R T (a.filter fun x => decide (x ∈ b)) = best := by
  obtain ⟨a1, a2⟩ := lots_mem.mp ha
  obtain ⟨b1, b2⟩ := lots_mem.mp hbm
  have mu : u ∈ lotsOf n := lots_mem.mpr ⟨hu, fun x hx => by
    rcases (hm x).mp hx with q | q
    · exact a2 x q
    · exact b2 x q⟩
  have mi : (a.filter fun x => decide (x ∈ b)) ∈ lotsOf n := lots_mem.mpr ⟨a1.filter _, fun x hx => a2 x (List.mem_filter.mp hx).1⟩
  have s := exc_super V wv R T hT a1 b1 hu hm
  have h1 := hb u mu
  have h2 := hb _ mi
  rw [ea, eb] at s
  exact ⟨mu, by grind, mi, by grind⟩
theorem least_in (hT : 0 ≤ T) (hb : ∀ l ∈ lotsOf n, exc V wv R T l ≤ best) {L M : List Int} (hL : L ∈ lotsOf n) (eL : exc V wv R T L = best) (hl : ∀ M ∈ lotsOf n, exc V wv R T M = best → L.length ≤ M.length) (hM : M ∈ lotsOf n) (eM : exc V wv R T M = best) :
    ∀ x ∈ L, x ∈ M := by
  obtain ⟨u, hu, hm⟩ := union_ex L M (lots_mem.mp hM).1
  obtain ⟨_, _, mi, ei⟩ := both_best hT hb hL hM eL eM hu hm
  have h1 := hl _ mi ei
  have h2 : (L.filter fun x => decide (x ∈ M)).length = L.length := Nat.le_antisymm (List.length_filter_le _ _) h1
  intro x hx
  have := List.length_filter_eq_length_iff.mp h2 x hx
  simpa using this
theorem greatest_in (hT : 0 ≤ T) (hb : ∀ l ∈ lotsOf n, exc V wv R T l ≤ best) {G M : List Int} (hG : G ∈ lotsOf n) (eG : exc V wv R T G = best) (hl : ∀ M ∈ lotsOf n, exc V wv R T M = best → M.length ≤ G.length) (hM : M ∈ lotsOf n) (eM : exc V wv R T M = best) :
    ∀ x ∈ M, x ∈ G := by
  obtain ⟨u, hu, hm⟩ := union_ex M G (lots_mem.mp hG).1
  obtain ⟨mu, eu, _, _⟩ := both_best hT hb hM hG eM eG hu hm
  have h1 := hl _ mu eu
  have p := (union_perm (lots_mem.mp hM).1 (lots_mem.mp hG).1 hu hm).length_eq
  rw [List.length_append] at p
  have h0 : (M.filter fun x => !decide (x ∈ G)).length = 0 := by omega
  intro x hx
  apply Classical.byContradiction
  intro hn
  have : x ∈ M.filter fun x => !decide (x ∈ G) := List.mem_filter.mpr ⟨hx, by simp [hn]⟩
  rw [List.eq_nil_of_length_eq_zero h0] at this
  cases this
end
end RK
set_option maxHeartbeats 1000000
namespace DL
open PySem PySem.Spec PyProof.Rows L2
variable {k : Kx} {N N' : Addr → Prop} {H H' H1 H2 : Hp} {w : Wd} {ρ ρ' : DEnv} {σ σ' : L2.St} {p p' p1 p2 : Pot} {X : Cx} {C : Addr} {m m' : Mo}
/-! ### slices of a list or a tuple, the whole of a tuple too -/
def rSlAny (K : PySem.W.Frag) : V → Option Int → Option Int → Hp → VK → Prop := fun x lo hi H Q => rSlL K x lo hi H Q ∨ rSlA K x lo hi H Q
theorem sl_any : SlR X (rSlAny X.K) := SlR.or sl_list sl_tupA
def gSlA (d : D) (lo hi : Option Int) : Option D := match d with
  | .lst l => some (.lst (cutD l lo hi))
  | .tup l => some (.tup (cutD l lo hi))
  | _ => none
theorem cut_all {l : List D} {lo hi : Option Int} (h : HT.sIx l.length 0 lo = 0 ∧ HT.sIx l.length l.length hi = l.length) : cutD l lo hi = l := by
  unfold cutD
  rw [h.1, h.2]
  simp
theorem sl_ok_any {K : PySem.W.Frag} : SlOk C m (rSlAny K) gSlA := by
  intro w ρ p σ H x a d lo hi Q ok ra e q
  unfold gSlA at e
  split at e <;> cases e
  · cases ra with
    | lst n1 e1 r1 => exact .inl ⟨_, _, rfl, SqL.of e1, fun c n => q _ _ (ok.kn n) (.lst (Md.al (ok.new n)) upd_same ((r1.cut lo hi).upd n))⟩
  · cases ra with
    | tup n1 e1 r1 =>
      refine .inr ⟨_, _, rfl, SqT.of e1, fun z => ?_, fun z c n => q _ _ (ok.kn n) (.tup (Md.al (ok.new n)) upd_same ((r1.cut lo hi).upd n))⟩
      rw [r1.length] at z
      rw [cut_all z] at q
      exact q _ H ok.kr (.tup n1 e1 r1)
/-! ### + of tuples, empty ones too -/
def gAddB : G2
  | .tup a, .tup b => if a.length + b.length ≤ 65536 then some (.tup (a ++ b)) else none
  | a, b => gAdd a b
def rAddB (K : PySem.W.Frag) : R2 := fun x y H Q => rAddA K x y H Q ∨ rCatA K x y H Q
theorem op_addB : OpR X (binaryOp .Add) (rAddB X.K) := op_addA.or op_catA
theorem r2_addB {K : PySem.W.Frag} : R2Ok C m m (rAddB K) gAddB := by
  intro w ρ p σ H x y a b d Q ok ra rb e q
  unfold gAddB at e
  split at e
  · split at e <;> cases e
    rename_i hl
    cases ra with
    | tup n1 e1 r1 =>
      cases rb with
      | tup n2 e2 r2 =>
        refine .inr ⟨_, _, _, _, rfl, rfl, SqT.of e1, SqT.of e2, by rw [r1.length, r2.length]; exact small_line hl, fun z => ?_, fun _ z => ?_, fun _ _ c n => ?_⟩
        · subst z
          cases r1
          exact q _ H ok.kr (.tup n2 e2 r2)
        · subst z
          cases r2
          rw [List.append_nil] at q
          exact q _ H ok.kr (.tup n1 e1 r1)
        · exact q _ _ (ok.kn n) (.tup (Md.al (ok.new n)) upd_same ((r1.append r2).upd n))
  · exact .inl (r2_add w ρ p σ H x y _ _ d Q ok ra rb e q)
/-! ### x[::-1] of a list or a tuple -/
section
open HT
variable {prog : Program} {wd : World} {A : Around} {E : Value → Shared → Prop} {s : Shared}
theorem places_back (n : Nat) : Builtin.Slice.slicePlaces ((n : Int) - 1) (-1) (-1) = n := by
  unfold Builtin.Slice.slicePlaces
  have h1 : ¬ ((-1 : Int) > 0) := by omega
  have h2 : (-(-1) : Int) = 1 := rfl
  simp only [h1, if_false, h2, Int.ediv_one]
  split <;> omega
theorem adjust_back (n : Nat) : Builtin.Slice.sliceAdjust none none (-1) (n : Int) = ((n : Int) - 1, -1) := by
  unfold Builtin.Slice.sliceAdjust
  have h1 : ((-1 : Int) < 0) := by omega
  simp [h1]
theorem applied_back {sl : Addr} {vl vu vs : Value} {n : Nat} {Q : Int × Int × Nat → Shared → Prop} (hs : s.heap.IsSliceOf sl vl vu vs) (pl : IsPart vl none) (pu : IsPart vu none) (ps : IsPart vs (some (-1)))
    (h : Q ((n : Int) - 1, -1, n) s) : wpAny (model prog wd) A (Builtin.Slice.sliceApplied (.ref sl) (pure (n : Int))) Q E s := by
  obtain ⟨os, hos, hcs, hds⟩ := id hs
  unfold Builtin.Slice.sliceApplied Builtin.Slice.sliceFields
  refine wpAny_bind (wpAny_bind (wpAny_field hos hds (x := vl) rfl (wpAny_bind (wpAny_field hos hds (x := vu) rfl (wpAny_bind (wpAny_field hos hds (x := vs) rfl (wpAny_pure ?_)))))))
  refine wpAny_bind (HT.slicePart_ ps ?_)
  show wpAny _ _ (if ((-1 : Int) == 0) = true then _ else _) _ _ s
  rw [if_neg (by decide)]
  refine wpAny_bind (HT.slicePart_ pl (wpAny_bind (HT.slicePart_ pu (wpAny_bind (wpAny_pure ?_)))))
  show wpAny _ _ (match Builtin.Slice.sliceAdjust none none (-1) (n : Int) with | (lo, hi) => pure (lo, (-1 : Int), Builtin.Slice.slicePlaces lo hi (-1))) _ _ s
  rw [adjust_back n]
  show wpAny _ _ (pure ((n : Int) - 1, (-1 : Int), Builtin.Slice.slicePlaces ((n : Int) - 1) (-1) (-1))) _ _ s
  rw [places_back]
  exact wpAny_pure h
theorem pick_back (xs : List Value) : ((List.range xs.length).filterMap fun (j : Nat) => xs.toArray[(((xs.length : Nat) : Int) - 1 + (j : Int) * (-1)).toNat]?).toArray = xs.reverse.toArray := by
  congr 1
  have e : (List.range xs.length).filterMap (fun (j : Nat) => xs.toArray[(((xs.length : Nat) : Int) - 1 + (j : Int) * (-1)).toNat]?) = (List.range xs.length).filterMap fun j => xs.reverse[j]? := by
    have go : ∀ (js : List Nat), (∀ j ∈ js, j < xs.length) → js.filterMap (fun (j : Nat) => xs.toArray[(((xs.length : Nat) : Int) - 1 + (j : Int) * (-1)).toNat]?) = js.filterMap fun j => xs.reverse[j]? := by
      intro js
      induction js with
      | nil => intro _; rfl
      | cons j js ih =>
        intro h
        have hj' : j < xs.length := h j List.mem_cons_self
        have e1 : xs.toArray[(((xs.length : Nat) : Int) - 1 + (j : Int) * (-1)).toNat]? = xs.reverse[j]? := by
          rw [List.getElem?_reverse hj', show (((xs.length : Nat) : Int) - 1 + (j : Int) * (-1)).toNat = xs.length - 1 - j by omega]
          simp
        rw [List.filterMap_cons, List.filterMap_cons, e1, ih fun i hi => h i (List.mem_cons_of_mem _ hi)]
    exact go _ fun j hj => by simpa using hj
  rw [e]
  have h2 : ∀ (l : List Value), (List.range l.length).filterMap (fun j => l[j]?) = l := by
    intro l
    have := PySem.W.krv_all l.toArray
    simpa using this
  have := h2 xs.reverse
  rw [List.length_reverse] at this
  exact this
theorem getItem_back {t sl : Addr} {its : List Value} {vl vu vs : Value} {Q : Value → Shared → Prop} (ht : IsTup s.heap t its.toArray) (hs : s.heap.IsSliceOf sl vl vu vs) (pl : IsPart vl none) (pu : IsPart vu none) (ps : IsPart vs (some (-1)))
    (h : Q (.ref s.heap.objs.size) { s with heap := s.heap.push { cls := .type "tuple", data := .seq its.reverse.toArray } })
    (hsz : its.length ≤ sizeLine) : wpAny (model prog wd) A (getItem (.ref t) (.ref sl)) Q E s := by
  have hok : sizeOk (.seq its.reverse.toArray) := by
    show its.reverse.toArray.size ≤ sizeLine
    rw [List.size_toArray, List.length_reverse]; exact hsz
  obtain ⟨os, hos, hcs, hds⟩ := id hs
  have hTs : s.TypeIs (.ref sl) "slice" := ⟨os, hos, hcs⟩
  unfold getItem
  try with_reducible refine wpAny_holding ?_
  first | refine wpAny_bind (wpAny_pure ?_) | skip
  refine wpAny_bind (wpAny_sequenceKey ht.typeIs (by decide) ?_)
  refine wpAny_bind (wpAny_callSpecial?_slot (name := Str.ofString "__getitem__") ht.typeIs PyProof.Rows.slot_tuple_getitem
    (wpAny_call_entry PyProof.Rows.slot_tuple_getitem ht.typeIs entry_tuple_getitem ?_ (args_tuple_getitem _ _)))
  show wpAny _ _ (Builtin.Tuple.tupleItemsOf (.ref t) >>= _) _ _ s
  refine wpAny_bind (tupleItemsOf_ ht ?_)
  refine wpAny_bind (wpAny_typeOf hTs ?_)
  rw [if_pos (by decide)]
  rw [List.size_toArray]
  refine wpAny_bind (applied_back hs pl pu ps ?_)
  have hno : ¬ (((((its.length : Nat) : Int) - 1) == 0 && (-1 : Int) == 1 && its.length == its.length) = true) := by simp
  show wpAny _ _ (if ((((its.length : Nat) : Int) - 1) == 0 && (-1 : Int) == 1 && its.length == its.length) = true then _ else _) _ _ s
  rw [if_neg hno, pick_back]
  first
    | exact wpAny_bind (m := Builtin.Tuple.tupleExact _) (wpAny_newObj_type (wpAny_pure ⟨_, rfl, wpAny_pure h⟩) hok)
    | exact wpAny_bind (m := Builtin.Tuple.tupleExact _) (wpAny_newObj_type (wpAny_bind (wpAny_pure (wpAny_pure ⟨_, rfl, wpAny_pure h⟩))) hok)
    | exact wpAny_bind (wpAny_bind (m := Builtin.Tuple.tupleExact _) (wpAny_newObj_type (wpAny_pure (wpAny_pure ⟨_, rfl, wpAny_pure h⟩)) hok))
    | exact wpAny_bind (wpAny_bind (m := Builtin.Tuple.tupleExact _) (wpAny_newObj_type (wpAny_pure ⟨_, rfl, wpAny_pure h⟩) hok))
end
def rBack (K : PySem.W.Frag) : V → Hp → VK → Prop := fun x H1 Q => ∃ a xs, x = .ref a ∧ ((SqL K H1 a xs ∧ ∀ p, H1 p = none → Q (.ref p) (upd H1 p (.lst xs.reverse))) ∨ (SqT K H1 a xs ∧ ∀ p, H1 p = none → Q (.ref p) (upd H1 p (.tup xs.reverse))))
theorem pe_back {e : Expr} {te : TE} {j : Nat} {p1 p2 p3 pos : Pos} (he : PE X e te) : PE X (.Subscript e (.Slice none none (some (.UnaryOp .USub (.Constant (.int 1) j p1) p2)) p3) pos) (fun σ H Q => te σ H fun x H1 => rBack X.K x H1 Q) := by
  have hst : PO X (some (.UnaryOp .USub (.Constant (.int 1) j p1) p2)) (tPart (tUn (rU fun i => .int (-i)) (tC (.int 1)))) := po_some (pe_un un_neg pe_int)
  refine ⟨fun pins s σ H Q I h => Subscript_ (thn (he.run pins s σ H _ I h) fun v s1 ⟨x, H1, I1, r1, a, xs, ex, q⟩ => ?_)⟩
  subst ex
  cases r1
  refine wpAny_Slice (thn (po_none.run pins s1 σ H1 (fun o H2 => o = none ∧ H2 = H1) I1 ⟨rfl, rfl⟩) fun vl s2 ⟨l, H2, I2, pl, el, e2⟩ => thn (po_none.run pins s2 σ H2 (fun o H3 => o = none ∧ H3 = H2) I2 ⟨rfl, rfl⟩) fun vu s3 ⟨u, H3, I3, pu, eu, e3⟩ =>
    thn (hst.run pins s3 σ H3 (fun o H4 => o = some (-1) ∧ H4 = H3) I3 ⟨1, rfl, -1, rfl, rfl, rfl⟩) fun vs s4 ⟨o, H4, I4, ps, eo, e4⟩ => ?_)
  subst e2 e3 e4 el eu eo
  have I5 : Inv X pins σ H4 { s4 with heap := s4.heap.push { cls := .type "slice", data := .fields #[vl, vu, vs] } } := I4.kept (t' := s4.toks) fun b ob q => Heap.get?_push_of_some _ q
  show wpAny (model X.prog X.w) X.A (subscriptTail e (.Slice none none (some (.UnaryOp .USub (.Constant (.int 1) j p1) p2)) p3) (.ref a) (.ref s4.heap.objs.size)) (EP X pins σ Q) X.xe { s4 with heap := s4.heap.push { cls := .type "slice", data := .fields #[vl, vu, vs] } }
  rcases q with ⟨hx, q⟩ | ⟨hx, q⟩
  · obtain ⟨its, r, ht, hz⟩ := I5.list hx
    have hlen := r.length
    refine tail_any (ops := [.ref a, .ref s4.heap.objs.size]) ht.isList.typeIs (PySem.slot_list_getitem.lookup) ?_ (by with_unfolding_all rfl)
    refine wpAny_getItem_list_slice ht.isList (Heap.IsSliceOf.new _ vl vu vs) pl pu ps (by decide) ?_ (by rw [List.size_toArray]; omega)
    rw [PySem.W.krv_pick]
    refine ⟨.ref _, _, I5.laid (t' := s4.toks) (o := .lst xs.reverse) (fun b ob q => Heap.get?_push_of_some _ q) (Nat.le_refl _) ?_, rfl, q _ (I5.hok.fresh (Nat.le_refl _))⟩
    exact ⟨by rw [List.length_reverse]; exact hz, _, 0, r.reverse, Heap.get?_push_size _ rfl⟩
  · obtain ⟨its, r, ht, hz⟩ := I5.tuple hx
    have hlen := r.length
    refine tail_any (ops := [.ref a, .ref s4.heap.objs.size]) ht.typeIs (PyProof.Rows.slot_tuple_getitem.lookup) ?_ (by with_unfolding_all rfl)
    refine getItem_back ht (Heap.IsSliceOf.new _ vl vu vs) pl pu ps ?_ (by omega)
    refine ⟨.ref _, _, I5.laid (t' := s4.toks) (o := .tup xs.reverse) (fun b ob q => Heap.get?_push_of_some _ q) (Nat.le_refl _) ?_, rfl, q _ (I5.hok.fresh (Nat.le_refl _))⟩
    exact ⟨by rw [List.length_reverse]; exact hz, _, r.reverse, IsTup.new _ _⟩
theorem RepAll.reverse {vs : List V} : ∀ {ds : List D}, RepAll k N H vs ds → RepAll k N H vs.reverse ds.reverse := fun {ds} => by
  induction vs generalizing ds with
  | nil => intro h; cases h; exact .nil
  | cons v vs ih =>
    intro h
    cases h with
    | cons r rr =>
      rw [List.reverse_cons, List.reverse_cons]
      exact (ih rr).append (.cons r .nil)
def gBack : D → Option D
  | .lst l => some (.lst l.reverse)
  | .tup l => some (.tup l.reverse)
  | _ => none
def dBack (f : EF) : EF := fun ρ p => (f ρ p).bind fun x => (gBack x.1).map fun d => (d, x.2)
theorem de_back {e : Expr} {f : EF} {j : Nat} {q1 q2 q3 pos : Pos} (he : DE X m e f) : DE X m (.Subscript e (.Slice none none (some (.UnaryOp .USub (.Constant (.int 1) j q1) q2)) q3) pos) (dBack f) := by
  refine PE.weak (pe_back he) fun σ H Q ⟨w, ρ, p, ok, d, p', e, q⟩ => ?_
  unfold dBack at e
  cases e1 : f ρ p with
  | none => rw [e1] at e; cases e
  | some x =>
    obtain ⟨d1, p1⟩ := x
    rw [e1] at e
    simp only [Option.bind_some] at e
    cases e2 : gBack d1 with
    | none => rw [e2] at e; cases e
    | some d2 =>
      rw [e2] at e
      cases e
      refine ⟨w, ρ, p, ok, d1, _, e1, fun v H1 k1 r1 => ?_⟩
      have o1 := ok.keep k1
      unfold gBack at e2
      split at e2 <;> cases e2
      · cases r1 with
        | lst n1 ea r1 => exact ⟨_, _, rfl, .inl ⟨SqL.of ea, fun c n => q _ _ (k1.trans (o1.kn n)) (.lst (Md.al (o1.new n)) upd_same (r1.reverse.upd n))⟩⟩
      · cases r1 with
        | tup n1 ea r1 => exact ⟨_, _, rfl, .inr ⟨SqT.of ea, fun c n => q _ _ (k1.trans (o1.kn n)) (.tup (Md.al (o1.new n)) upd_same (r1.reverse.upd n))⟩⟩
/-! ### {} -/
theorem de_edict {pos : Pos} : DE X m (.Dict [] [] pos) (dK .edict) := PE.weak pe_dnewK fun σ H Q ⟨w, ρ, p, ok, d, p', e, q⟩ => by
  cases e
  exact fun a n => q _ _ (ok.kn n) (.edict (Md.al (ok.new n)) upd_same)
/-! ### list(range(n)) -/
def lListRg (a : EF) : LF := fun ρ p => (a ρ p).bind fun x => match x.1 with
  | .int n => if -65536 < n ∧ n < 65536 then some (dInts 0 n.toNat, x.2) else none
  | _ => none
theorem rgV_rep (n : Int) : RepAll k N H (rgV 0 n) (dInts 0 n.toNat) := by
  have h : ∀ (l : List Nat), RepAll k N H (l.map fun (i : Nat) => V.int (0 + (i : Int))) (l.map fun (i : Nat) => D.int (0 + (i : Int))) := by
    intro l
    induction l with
    | nil => exact .nil
    | cons x l ih => exact .cons (.int _) ih
  have := h (List.range n.toNat)
  unfold rgV dInts
  rw [show (n - 0).toNat = n.toNat by omega]
  exact this
theorem rg_ok {n : Int} (h : -65536 < n ∧ n < 65536) : RgOk 0 n := by
  have e : (2 : Int) ^ 62 = 4611686018427387904 := by decide
  have e2 : (2 : Nat) ^ 24 = 16777216 := by decide
  unfold RgOk
  rw [e, e2]
  omega
theorem dn_listRg {pp p2 pos pos2 : Pos} {a : Expr} {f : EF} (hc : X.calm = true) (hg : Gl X "list") (hm : X.mg "list" = none) (hg2 : Gl X "range") (hm2 : X.mg "range" = none) (ha : DE X m' a f) (hs : starEach [a] X.env = (false, eval a X.env) :: starEach [] X.env := by rfl)
    (hs2 : starEach [.Call (.Name "range" p2) [a] [] pos2] X.env = (false, eval (.Call (.Name "range" p2) [a] [] pos2) X.env) :: starEach [] X.env := by rfl) :
    DN X m (.Call (.Name "list" pp) [.Call (.Name "range" p2) [a] [] pos2] [] pos) (lListRg f) := by
  refine PE.weak (pe_listRg hc hg hm (prg_1 hg2 hm2 ha hs) hs2) fun σ H Q ⟨w, ρ, p, ok, ds, p', e, q⟩ => ?_
  unfold lListRg at e
  cases e1 : f ρ p with
  | none => rw [e1] at e; cases e
  | some x =>
    obtain ⟨d1, p1⟩ := x
    rw [e1] at e
    simp only [Option.bind_some] at e
    split at e
    · split at e <;> cases e
      rename_i n hn
      refine ⟨w, ρ, p, ok, _, _, e1, fun v H1 k1 r1 => ?_⟩
      cases r1
      exact ⟨_, rfl, rg_ok hn, fun b n => q b _ _ (k1.trans ((ok.keep k1).kn n)) (k1.none n) upd_same (rgV_rep _)⟩
    · cases e
/-! ### len(set(xs)) -/
def sizeSet (l : List Int) : Nat := (sortU l).length
theorem sizeSet_eq {es ns : List Int} (h1 : es.Nodup) (h : ∀ z, z ∈ es ↔ z ∈ ns) : es.length = sizeSet ns :=
  ((List.perm_ext_iff_of_nodup h1 ((sortU_asc ns).imp fun h => Int.ne_of_lt h)).mpr fun z => by rw [h, sortU_mem]).length_eq
def rLenO (w : World) : List V → Hp → VK → Prop := fun xs H Q => ∃ (a : Addr) (ns : List Int) (n : Nat), xs = [.ref a] ∧ H a = some (SetO w a (fun j => decide (j ∈ ns)) n) ∧ Q (.int (sizeSet ns : Nat)) H
theorem cr_lenO : CallR X (.builtin "len") (rLenO X.w) := by
  intro pins s σ H vs us Q I r ⟨a, ns, n, e, ea, q⟩
  subst e
  rw [Vals.ref1 r]
  obtain ⟨o, es, ep, t, ho, hex, hd, _, nd, hk, hb, hf, hn, _⟩ := setO_get I ea
  have hl : es.size = sizeSet ns := by
    have := sizeSet_eq (ns := ns) nd fun z => by rw [← hk z, decide_eq_true_eq]
    rw [List.length_map, Array.length_toList] at this
    exact this
  refine call_len_set ho hex hd hf (by unfold scanBound at hb; omega) ⟨.int (sizeSet ns : Nat), H, I.tok _, ⟨_, by rw [hl]⟩, q⟩
def dLenSet (h : LF) : EF := fun ρ p => (h ρ p).bind fun x => (intsOf x.1).bind fun ns => if ns.length ≤ 60 then some (.int (sizeSet ns : Nat), x.2) else none
theorem de_lenSet {e : Expr} {h : LF} {sf : Bool} {p1 p2 q1 q2 : Pos} (hc : X.calm = true) (hg1 : Gl X "len") (hg2 : Gl X "set") (hm1 : X.mg "len" = none) (hm2 : X.mg "set" = none) (he : DSrc X sf m' e h)
    (hs : starEach [e] X.env = (false, eval e X.env) :: starEach [] X.env := by rfl) (hs2 : starEach [.Call (.Name "set" p2) [e] [] q2] X.env = (false, eval (.Call (.Name "set" p2) [e] [] q2) X.env) :: starEach [] X.env := by rfl)
    (hpl : (backTo q2 (starEach [] X.env)).any (·.1) = false := by rfl) (hpl2 : (backTo q1 (starEach [] X.env)).any (·.1) = false := by rfl) :
    DE X m (.Call (.Name "len" p1) [.Call (.Name "set" p2) [e] [] q2] [] q1) (dLenSet h) := by
  refine PE.weak (pe_callB cr_lenO hg1 hm1 PySem.boot_len (pa_cons (pe_callTy (cr_setL hc) hg2 hm2 PyProof.Rows.boot_set (pa_cons he pa_nil hs) (by decide) (by decide) hs hpl) pa_nil hs2) (by decide) (by decide) hs2 hpl2) fun σ H Q ⟨w, ρ, p, ok, ds, p', e, q⟩ => ?_
  unfold dLenSet at e
  cases e1 : h ρ p with
  | none => rw [e1] at e; cases e
  | some x =>
    obtain ⟨l, p1⟩ := x
    rw [e1] at e
    simp only [Option.bind_some] at e
    cases e2 : intsOf l with
    | none => rw [e2] at e; cases e
    | some ns =>
      rw [e2] at e
      simp only [Option.bind_some] at e
      split at e
      · rename_i hl
        cases e
        refine ⟨w, ρ, p, ok, l, _, e1, fun a xs H1 k1 ea g1 o1 r1 => ⟨a, ns, rfl, ?_, hl, fun b c nb hcn => ⟨b, ns, c, rfl, upd_same, q _ _ ?_ (.int _)⟩⟩⟩
        · rw [← repAll_ints r1 e2]; exact SqL.of ea
        · exact k1.trans (Keep.new (o := SetO X.w b (fun j => decide (j ∈ ns)) c) (ok.keep k1).pot nb)
      · cases e
/-! ### set(t), t a tuple of ints -/
def rSetA (K : PySem.W.Frag) (w : World) : List V → Hp → VK → Prop := fun vs H Q => ∃ (a : Addr) (ns : List Int), vs = [V.ref a] ∧ (SqL K H a (ns.map V.int) ∨ SqT K H a (ns.map V.int)) ∧ ns.length ≤ 60 ∧
  ∀ (q : Addr) (c : Nat), H q = none → c ≤ ns.length → Q (.ref q) (upd H q (SetO w q (fun j => decide (j ∈ ns)) c))
theorem cr_setA (hc : X.calm = true) : CallR X (.type "set") (rSetA X.K X.w) := by
  intro pins s σ H vs us Q I r ⟨a, ns, e, hs, hl, q⟩
  rcases hs with hs | hs
  · exact cr_setL hc pins s σ H vs us Q I r ⟨a, ns, e, hs, hl, q⟩
  · subst e
    obtain ⟨its, rv, hp, hz⟩ := I.tuple hs
    rw [Vals.ref1 r]
    refine call_set_tupI ns (I.ok.hd hc) hp (ints_of_vals rv) (by unfold scanBound; omega) fun h' tk c R hcn kp => ?_
    exact ⟨.ref _, _, I.laid kp (Nat.le_refl _) (setO_new R), rfl, q _ c I.fresh hcn⟩
def seqOf : D → Option (List D)
  | .lst l => some l
  | .tup l => some l
  | _ => none
def lSortSetS (f : EF) : LF := fun ρ p => (f ρ p).bind fun x => (seqOf x.1).bind fun l => (intsOf l).bind fun ns => if ns.length ≤ 60 then some ((sortU ns).map .int, x.2) else none
theorem dn_sortSetS {e : Expr} {f : EF} {p1 p2 q1 q2 : Pos} (hc : X.calm = true) (hg1 : Gl X "sorted") (hg2 : Gl X "set") (hm1 : X.mg "sorted" = none) (hm2 : X.mg "set" = none) (he : DE X m' e f)
    (hs : starEach [e] X.env = (false, eval e X.env) :: starEach [] X.env := by rfl) (hs2 : starEach [.Call (.Name "set" p2) [e] [] q2] X.env = (false, eval (.Call (.Name "set" p2) [e] [] q2) X.env) :: starEach [] X.env := by rfl)
    (hpl : (backTo q2 (starEach [] X.env)).any (·.1) = false := by rfl) (hpl2 : (backTo q1 (starEach [] X.env)).any (·.1) = false := by rfl) :
    DN X m (.Call (.Name "sorted" p1) [.Call (.Name "set" p2) [e] [] q2] [] q1) (lSortSetS f) := by
  refine PE.weak (pe_callB (cr_sortedSet hc) hg1 hm1 (by rfl) (pa_cons (pe_callTy (cr_setA hc) hg2 hm2 PyProof.Rows.boot_set (pa_cons he pa_nil hs) (by decide) (by decide) hs hpl) pa_nil hs2) (by decide) (by decide) hs2 hpl2) fun σ H Q ⟨w, ρ, p, ok, ds, p', e, q⟩ => ?_
  unfold lSortSetS at e
  cases e1 : f ρ p with
  | none => rw [e1] at e; cases e
  | some x =>
    obtain ⟨d, p1⟩ := x
    rw [e1] at e
    simp only [Option.bind_some] at e
    cases e0 : seqOf d with
    | none => rw [e0] at e; cases e
    | some l =>
    rw [e0] at e
    simp only [Option.bind_some] at e
    cases e2 : intsOf l with
    | none => rw [e2] at e; cases e
    | some ns =>
      rw [e2] at e
      simp only [Option.bind_some] at e
      split at e
      · rename_i hl
        cases e
        refine ⟨w, ρ, p, ok, d, _, e1, fun v H1 k1 r1 => ?_⟩
        have hv : ∃ a, v = .ref a ∧ (SqL X.K H1 a (ns.map V.int) ∨ SqT X.K H1 a (ns.map V.int)) := by
          unfold seqOf at e0
          split at e0 <;> cases e0
          · cases r1 with
            | lst n1 ea rr => exact ⟨_, rfl, .inl (by rw [← repAll_ints rr e2]; exact SqL.of ea)⟩
          · cases r1 with
            | tup n1 ea rr => exact ⟨_, rfl, .inr (by rw [← repAll_ints rr e2]; exact SqT.of ea)⟩
        obtain ⟨a, rfl, hsq⟩ := hv
        refine ⟨a, ns, rfl, hsq, hl, fun b c nb hcn => ⟨b, _, c, rfl, upd_same, by omega, fun ms b2 hms hmem hlen nb2 => ?_⟩⟩
        have oks := ok.keep k1
        have hms' : ms = sortU ns := asc_uniq hms (sortU_asc ns) fun z => by rw [hmem z, sortU_mem, decide_eq_true_eq]
        subst hms'
        have n1 : H1 b2 = none := by
          by_cases hb : b2 = b
          · rw [hb]; exact nb
          · rw [upd_ne hb] at nb2; exact nb2
        have k2 := Keep.new (o := SetO X.w b (fun j => decide (j ∈ ns)) c) oks.pot nb
        have k3 : Keep w.k p' (upd H1 b (SetO X.w b (fun j => decide (j ∈ ns)) c)) (upd (upd H1 b (SetO X.w b (fun j => decide (j ∈ ns)) c)) b2 (.lst ((sortU ns).map V.int))) := Keep.new k2.2 nb2
        exact q b2 _ _ ((k1.trans k2).trans k3) (k1.none n1) upd_same (ints_rep _)
      · cases e
end DL
set_option maxHeartbeats 1000000
namespace DL
open PySem PySem.Spec PyProof.Rows L2
variable {k : Kx} {N N' : Addr → Prop} {H H' H1 H2 : Hp} {w : Wd} {ρ ρ' : DEnv} {σ σ' : L2.St} {p p' p1 p2 : Pot} {X : Cx} {C : Addr} {m m' : Mo}
/-! ### zip of two lists or of two tuples, as data -/
def lZipS (f g : EF) : LF := fun ρ p => (f ρ p).bind fun x => (g ρ x.2).bind fun y => match x.1, y.1 with
  | .lst a, .lst b => some ((a.zip b).map fun z => D.tup [z.1, z.2], y.2)
  | .tup a, .tup b => some ((a.zip b).map fun z => D.tup [z.1, z.2], y.2)
  | _, _ => none
theorem walk_zipT {K : PySem.W.Frag} {a b : Addr} {xs ys : List V} {ds es : List D} {Hf : Hp} {S : Addr → Prop} (e : Hf a = some (.tup xs)) (e2 : Hf b = some (.tup ys)) (r : RepAll k S Hf xs ds) (r2 : RepAll k S Hf ys es) : Walk k (RZ.ItzT K a b) ((ds.zip es).map fun z => D.tup [z.1, z.2]) Hf S where
  go := fun i H hi hf => by
    simp only [List.length_map, List.length_zip] at hi
    have hx : i < xs.length := by rw [r.length]; omega
    have hy : i < ys.length := by rw [r2.length]; omega
    exact ⟨xs, ys, xs[i], ys[i], SqT.of (hf a _ e), SqT.of (hf b _ e2), List.getElem?_eq_getElem hx, List.getElem?_eq_getElem hy⟩
  yld := fun i H x H' d hd hf y => by
    obtain ⟨T, z, u, rfl, hT, rfl, y1, y2⟩ := y
    obtain ⟨d1, ed, rd⟩ := r.getV (y1 xs (SqT.of (hf a _ e)))
    obtain ⟨d2, ed2, rd2⟩ := r2.getV (y2 ys (SqT.of (hf b _ e2)))
    have : d = D.tup [d1, d2] := by
      have hz : (ds.zip es)[i]? = some (d1, d2) := List.getElem?_zip_eq_some.mpr ⟨ed, ed2⟩
      simp only [List.getElem?_map, hz] at hd
      simpa using hd.symm
    subst this
    refine ⟨fun b o q => by rw [upd_ne (ne_of_none q hT)]; exact q, .tup (.inr hT) upd_same (.cons ?_ (.cons ?_ .nil))⟩
    · exact (rd.later hf).keep fun b o n q => by rw [upd_ne (ne_of_none q hT)]; exact q
    · exact (rd2.later hf).keep fun b o n q => by rw [upd_ne (ne_of_none q hT)]; exact q
  stop := fun i H hi hf => by
    simp only [List.length_map, List.length_zip] at hi
    refine ⟨xs, ys, SqT.of (hf a _ e), SqT.of (hf b _ e2), ?_⟩
    rw [r.length, r2.length]
    omega
theorem di_zipS {sf : Bool} {m : Mo} {e e2 : Expr} {f g : EF} {pp pos tpos : Pos} {elts : List Expr} {kk : Nat} (hg : Gl X "zip") (hm : X.mg "zip" = none) (he : DE X m e f) (he2 : DE X m e2 g) (hsl : m.slot = true := by rfl)
    (hs : starEach [e, e2] X.env = (false, eval e X.env) :: starEach [e2] X.env := by rfl) (hpl : (backTo pos (starEach [e2] X.env)).any (·.1) = false := by rfl) (hs1 : starEach [e2] X.env = (false, eval e2 X.env) :: starEach [] X.env := by rfl) :
    DI X sf m (.Tuple elts kk tpos) (.Call (.Name "zip" pp) [e, e2] [] pos) (lZipS f g) := by
  refine PI.weak (RZ.pi_zipA hg hm (pa_cons he (pa_cons he2 pa_nil hs1) hs) hs hpl) fun σ H R ⟨w, ρ, p, ok, ds, p', eh, q⟩ => ?_
  unfold lZipS at eh
  cases e1 : f ρ p with
  | none => rw [e1] at eh; cases eh
  | some x =>
    obtain ⟨d1, p1⟩ := x
    rw [e1] at eh
    simp only [Option.bind_some] at eh
    cases e2 : g ρ p1 with
    | none => rw [e2] at eh; cases eh
    | some y =>
      obtain ⟨d2, p2⟩ := y
      rw [e2] at eh
      simp only [Option.bind_some] at eh
      refine ⟨w, ρ, p, ok, d1, p1, e1, fun v H1 k1 r1 => ⟨w, ρ, p1, ok.keep k1, d2, p2, e2, fun u H2 k2 r2 => ?_⟩⟩
      have r1' := r1.on (ok.keep k1) k2
      have md : ∀ b, Md m w ρ σ b → ¬ w.gh b ∧ (sf = true → ¬ OwnAt ρ σ b) := fun b n => Md.sub (fun _ => hsl) n
      split at eh <;> cases eh
      · cases r1' with
        | lst n1 ea r1 =>
          cases r2 with
          | lst n2 eb r2 =>
            exact ⟨_, _, _, _, rfl, .inl ⟨SqL.of ea, SqL.of eb, q _ H2 (part H2 fun b => ¬ w.gh b ∧ (sf = true → ¬ OwnAt ρ σ b)) (k1.trans k2) (fun b u z => (part_some.mp z).2) (fun b u z => (part_some.mp z).1) (walk_zip (part_some.mpr ⟨md _ n1, ea⟩) (part_some.mpr ⟨md _ n2, eb⟩) (repAll_part md r1) (repAll_part md r2))⟩⟩
      · cases r1' with
        | tup n1 ea r1 =>
          cases r2 with
          | tup n2 eb r2 =>
            exact ⟨_, _, _, _, rfl, .inr ⟨SqT.of ea, SqT.of eb, q _ H2 (part H2 fun b => ¬ w.gh b ∧ (sf = true → ¬ OwnAt ρ σ b)) (k1.trans k2) (fun b u z => (part_some.mp z).2) (fun b u z => (part_some.mp z).1) (walk_zipT (part_some.mpr ⟨md _ n1, ea⟩) (part_some.mpr ⟨md _ n2, eb⟩) (repAll_part md r1) (repAll_part md r2))⟩⟩
/-! ### - of a Ratio -/
structure Neg (P : Program) (w : World) (K : PySem.W.Frag) (mg : Str → Option Value) (base : Heap) (kk : Nat) (fn : PF) : Prop where
  ex : ∃ g fd, FnOk P w K mg base CX0 kk g fd ["self"] (spD (clsM mg) false fn) ∧ L2.Binds K fd ["self"] [] ∧ PySem.W.findIn K (.ref (clsM mg)) "__neg__" = some (some (.ref g)) ∧ PySem.W.isFn K (.ref g) = true
theorem mk_neg {P : Program} {w : World} {K : PySem.W.Frag} {mg : Str → Option Value} {base : Heap} {qual : Str} {st : Stmt} {g : Addr} {fd : FuncData} {kk : Nat} {fn : PF} (S : MSt K (clsM mg) "__neg__" qual st g fd) (F : FnOk P w K mg base CX0 kk g fd ["self"] (spD (clsM mg) false fn) ∧ L2.Binds K fd ["self"] []) : Neg P w K mg base kk fn := ⟨g, fd, F.1, F.2, S.at_, S.is⟩
def rNegO (C : Addr) (fn : PF) : V → Hp → VK → Prop := fun x H Q => (∃ a dx fs, x = .ref a ∧ H a = some (.ins C dx fs)) ∧ spD C false fn [x] H Q E0
theorem un_nego {kk : Nat} {fn : PF} (B : Neg X.prog X.w X.K X.mg X.base kk fn) (hr : Room kk X.A) : UnR X (unaryOp .USub) (rNegO (clsOf X) fn) := by
  intro pins s σ H x u Q I rx h
  obtain ⟨g, fd, F, hb, hs, hf⟩ := B.ex
  obtain ⟨⟨a, dx, fs, rfl, ha⟩, hsp⟩ := h
  cases rx
  obtain ⟨mA, J, _⟩ := ins_get I.hok ha
  obtain ⟨od, J, _⟩ := J.look
  obtain ⟨mm, hF⟩ := I.fr
  exact PySem.W.ksp_neg hF I.ok.mod.kin J hs hf (call_one F hr I.env0.1 hb I (x := V.ref a) rfl hsp)
def dNegO (fn : PF) (f : EF) : EF := fun ρ p => (f ρ p).bind fun x => if isR x.1 = true then fn [x.1] x.2 else none
theorem de_nego {kk : Nat} {fn : PF} {e : Expr} {f : EF} {pos : Pos} (B : Neg X.prog X.w X.K X.mg X.base kk fn) (hr : Room kk X.A) (he : DE X m e f) : DE X m (.UnaryOp .USub e pos) (dNegO fn f) := by
  refine PE.weak (pe_un (un_nego B hr) he) fun σ H Q ⟨w, ρ, p, ok, d, p', e, q⟩ => ?_
  unfold dNegO at e
  cases e1 : f ρ p with
  | none => rw [e1] at e; cases e
  | some x =>
    obtain ⟨d', p1⟩ := x
    rw [e1] at e
    simp only [Option.bind_some] at e
    split at e
    · rename_i hR
      cases d' <;> first | cases hR | skip
      refine ⟨w, ρ, p, ok, _, p1, e1, fun v H1 k1 r1 => ?_⟩
      have o1 := ok.keep k1
      cases r1 with
      | rat n1 e2 =>
        have e3 := e2
        rw [ok.cls] at e3
        have ek : (⟨clsOf X, w.k.pa⟩ : Kx) = w.k := by rw [← ok.cls]
        refine ⟨⟨_, _, _, rfl, e3⟩, w.k.pa, Md m w ρ σ, p1, [_], d, p', o1.pot, fun n => n.nog ok.pgh, ?_, e, fun v H2 k2 r2 => ?_⟩
        · rw [ek]; exact .cons (.rat n1 e2) .nil
        · rw [ek] at k2 r2
          refine q v H2 (k1.trans k2) (r2.weak fun a n => ?_)
          rcases n with ⟨_, n⟩ | n | ⟨dx, fs, n⟩
          · exact n
          · exact Md.al (o1.new n)
          · exact Md.al (o1.ins n)
    · cases e
/-! ### recursion: nothing is claimed at depth 0 -/
theorem dfn_none {P : Program} {w : World} {K : PySem.W.Frag} {mg : Str → Option Value} {base : Heap} {x : Str} {st : Stmt} {ps : List Str} {kk : Nat} {fr : Bool} (F : Stands K mg x st)
    (hb : ∀ (kV doc pm : Value) (an : Option Addr) (cdv ct : Value) (us : List Value), us.length = ps.length → bindArgs (PySem.W.fnOf x x (defArgs st) (defBody st) (defScope st) .none kV doc pm an cdv ct) ⟨us, []⟩ = pure (ps.zip us)) : Dfn P w K mg base x kk ps fr (fun _ _ => none) := by
  obtain ⟨f, fd, F, hm⟩ := F
  have no : ∀ vs H Q E, ¬ spD (clsM mg) fr (fun _ _ => none) vs H Q E := fun vs H Q E ⟨_, _, _, _, _, _, _, _, _, e, _⟩ => by cases e
  exact ⟨f, fd, { len := fun vs H Q E h => absurd h (no _ _ _ _), run := fun A outer s H args us vs Q E _ _ _ _ h => absurd h (no _ _ _ _) }, hm, F.kp, F.binds hb⟩
/-! ### defs below which repr is called -/
structure DfnR (P : Program) (w : World) (K : PySem.W.Frag) (mg : Str → Option Value) (base : Heap) (x : Str) (kk : Nat) (ps : List Str) (fn : PF) : Prop where
  ex : ∃ f fd, FnG P w K mg base kk f fd ps (spD (clsM mg) false fn) ∧ mg x = some (.ref f) ∧ PySem.W.keepIn K (.ref f) = true ∧ L2.Binds K fd ps []
theorem spD_len {C : Addr} {fr : Bool} {n : Nat} {N : List Str} {g : SF} {vs : List V} {H : Hp} {Q : VK} {E : XK} (h : spD C fr (defD n N fr g) vs H Q E) : vs.length = n := by
  obtain ⟨pa, S', p, ds, d, p', _, _, r, e, _⟩ := h
  unfold defD at e
  split at e
  · rename_i hl
    rw [r.length, hl]
  · cases e
theorem def_go {C : Addr} {fr : Bool} {n : Nat} {N : List Str} {g : SF} {vs : List V} {H : Hp} {Q : VK} {E : XK} (hn : n ≤ N.length) (h : spD C fr (defD n N fr g) vs H Q E) : tDS C g { nx := fun _ H' => Q .non H', rt := Q } (L2.start N vs) H := by
  obtain ⟨pa, S', p, ds, d, p', hp, nS, r, e, q⟩ := h
  unfold defD at e
  split at e
  · rename_i hl
    unfold runD at e
    cases e1 : g (startD N fr ds) p with
    | none => rw [e1] at e; cases e
    | some y =>
      obtain ⟨fl, ρ', p1⟩ := y
      rw [e1] at e
      simp only [Option.bind_some] at e
      refine ⟨_, _, p, ok_start hp nS r (by rw [hl]; exact hn), fl, ρ', p1, e1, fun σ' H' o => ?_⟩
      have kp : ∀ (a : Addr) (u : HO), a ≠ pa → H a = some u → H' a = some u := fun a u n z => o.h0 a u (part_some (S := fun a => a ≠ pa).mpr ⟨n, z⟩)
      cases fl with
      | nx => cases e; exact q .non H' ⟨kp, o.pot⟩ .non
      | rt d' =>
        cases e
        exact fun v rv => q v H' ⟨kp, o.pot⟩ (rv.weak fun a n => by
          rcases n.1 with z | z | z | z
          · exact .inl z
          · exact .inr (.inl z)
          · exact absurd z n.2
          · exact .inr (.inr z))
      | bk => cases e
      | ct => cases e
  · cases e
theorem dfnR {P : Program} {w : World} {K : PySem.W.Frag} {mg : Str → Option Value} {base : Heap} {x : Str} {st : Stmt} {N ps : List Str} {kk : Nat} {g : SF} (F : Stands K mg x st) (S : FnScope N ps (defScope st)) (hps : ps.length ≤ N.length)
    (hb : ∀ (kV doc pm : Value) (an : Option Addr) (cdv ct : Value) (us : List Value), us.length = ps.length → bindArgs (PySem.W.fnOf x x (defArgs st) (defBody st) (defScope st) .none kV doc pm an cdv ct) ⟨us, []⟩ = pure (ps.zip us))
    (hbody : ∀ (f : Addr) (cdv : Value) (A : Around) (outer : List PySem.Env) (s : Shared) (H : Hp) (E : XK), Room kk (A.deeper (envOfC x (defScope st) s.heap.objs.size f cdv)) → (A.deeper (envOfC x (defScope st) s.heap.objs.size f cdv)).guards = some [] →
      DSs (cxOf CX0 P w K mg base N x (defScope st) f cdv A outer s H E).nox (defBody st) g) : DfnR P w K mg base x (kk + 1) ps (defD ps.length N false g) := by
  obtain ⟨f, fd, F, hm⟩ := F
  exact ⟨f, fd, funG F S (fun vs H Q E h => spD_len h) fun cdv A outer s H vs Q E hr hgd h => ⟨_, hbody f cdv A outer s H E hr hgd, def_go hps h⟩, hm, F.kp, F.binds hb⟩
theorem de_fR {x : Str} {kk : Nat} {ps : List Str} {fn : PF} {e : Expr} {es : List Expr} {g : AF} {pp pos : Pos} (G : DfnR X.prog X.w X.K X.mg X.base x kk ps fn) (hgd : X.A.guards = some []) (hr : Room kk X.A) (hg : Gl X x) (ha : DA X m (e :: es) g) (hdb : (x == ("__debug__" : Str)) = false := by decide)
    (he : starEach (e :: es) X.env = (false, eval e X.env) :: starEach es X.env := by rfl) (hpl : (backTo pos (starEach es X.env)).any (·.1) = false := by rfl) : DE X m (.Call (.Name x pp) (e :: es) [] pos) (dCall fn g) := by
  obtain ⟨f, fd, F, hm, hk, hb⟩ := G.ex
  refine PE.weak (pe_callG F hr hgd hg hm hk hb ha hdb he hpl) fun σ H Q h => ?_
  have z : dCall (fun a => fn (a ++ [])) g = dCall fn g := dCall_nil
  have := call_go (fr := false) (f := fn) (g := g) (dvs := []) (dds := []) (E := E0) (Q := Q) (σ := σ) (H := H) (fun _ _ _ => .nil) (by rw [z]; exact h)
  exact this
theorem de_kw0N {x : Str} {kk : Nat} {ps ks : List Str} {j : Nat} {ix : List Nat} {fn : PF} {kws : List Keyword} {gk : AF} {pp pos : Pos} (G : DfnW X.prog X.w X.K X.mg X.base x kk ps ks 0 j ix false fn) (hr : Room kk X.A) (hg : Gl X x) (hk2 : DK X m kws gk) (hall : (backToKw pos (keywordEach kws X.env)).all (·.1.isSome) = true := by rfl) (hks : (backToKw pos (keywordEach kws X.env)).filterMap (·.1) = ks := by rfl)
    (hdb : (x == ("__debug__" : Str)) = false := by decide) (hpl : ((backTo pos (starEach [] X.env)).any (·.1) || (backToKw pos (keywordEach kws X.env)).any (·.1.isNone)) = false := by rfl) :
    DE X m (.Call (.Name x pp) [] kws pos) (dKw fn 0 j ix dNil gk) := de_kw0 G hr hg hk2 hall hks hdb hpl
theorem de_kw0F {x : Str} {kk : Nat} {ps ks : List Str} {j : Nat} {ix : List Nat} {fn : PF} {kws : List Keyword} {gk : AF} {pp pos : Pos} (G : DfnW X.prog X.w X.K X.mg X.base x kk ps ks 0 j ix true fn) (hr : Room kk X.A) (hg : Gl X x) (hk2 : DK X m kws gk) (hall : (backToKw pos (keywordEach kws X.env)).all (·.1.isSome) = true := by rfl) (hks : (backToKw pos (keywordEach kws X.env)).filterMap (·.1) = ks := by rfl)
    (hdb : (x == ("__debug__" : Str)) = false := by decide) (hpl : ((backTo pos (starEach [] X.env)).any (·.1) || (backToKw pos (keywordEach kws X.env)).any (·.1.isNone)) = false := by rfl) :
    DE X .al (.Call (.Name x pp) [] kws pos) (dKw fn 0 j ix dNil gk) := de_kw0 G hr hg hk2 hall hks hdb hpl
end DL
set_option maxHeartbeats 4000000
namespace K36
open PySem PySem.Spec PyProof.Rows L2 DL
def topS (i : Nat) : Stmt := PySem.Challenge.pw_weighedrooms_k36_whole_lots_excesses_and.main.body.getD i (.Pass ⟨0, 0, 0, 0⟩)
def c_MOST_LISTS : Int := 8
def c_MOST_LONG : Int := 4
def c_PART : Int := 1000000000000000000000000000000000000000000000000000000000000
structure Tops (P : Program) (w : World) (K : PySem.W.Frag) (mg : Str → Option Value) (base : Heap) : Prop where
  z_abs : mg "abs" = none
  z_all : mg "all" = none
  z_any : mg "any" = none
  z_bool : mg "bool" = none
  z_divmod : mg "divmod" = none
  z_enumerate : mg "enumerate" = none
  z_gcd : mg "gcd" = some (.builtin "math.gcd")
  z_int : mg "int" = none
  z_isinstance : mg "isinstance" = none
  z_lcm : mg "lcm" = some (.builtin "math.lcm")
  z_len : mg "len" = none
  z_list : mg "list" = none
  z_max : mg "max" = none
  z_min : mg "min" = none
  z_range : mg "range" = none
  z_repr : mg "repr" = none
  z_set : mg "set" = none
  z_sorted : mg "sorted" = none
  z_tuple : mg "tuple" = none
  z_zip : mg "zip" = none
  c_MOST_LISTS : ∃ t, mg "MOST_LISTS" = some (.int c_MOST_LISTS t)
  c_MOST_LONG : ∃ t, mg "MOST_LONG" = some (.int c_MOST_LONG t)
  c_PART : ∃ t, mg "PART" = some (.int c_PART t)
  R : RatF K (clsM mg)
  m_Ratio : mg "Ratio" = some (.ref (clsM mg))
variable {P : Program} {w : World} {K : PySem.W.Frag} {mg : Str → Option Value} {base : Heap}
/-! ### is_integer -/
abbrev s_is_integer : Stmt := topS 9
abbrev n_is_integer : List Str := ["value"]
theorem sc_is_integer : FnScope n_is_integer ["value"] (defScope s_is_integer) := ⟨rfl, rfl, rfl, by decide +kernel, rfl, by decide +kernel, by decide +kernel⟩
noncomputable def g_is_integer : SF := dRet (dAnd (dApp (gIsT .int) (dCons (dVar 0) (dCons (dK (.ty "int")) dNil))) (dNot (dApp (gIsT .bool) (dCons (dVar 0) (dCons (dK (.ty "bool")) dNil)))))
noncomputable def d_is_integer : PF := defD 1 n_is_integer false g_is_integer
theorem bd_is_integer (T : Tops P w K mg base)  : ∀ (f : Addr) (cdv : Value) (A : Around) (outer : List PySem.Env) (s : Shared) (H : Hp) (E : XK), Room 0 (A.deeper (envOfC "is_integer" (defScope s_is_integer) s.heap.objs.size f cdv)) → DSs (cxOf CX0 P w K mg base n_is_integer "is_integer" (defScope s_is_integer) f cdv A outer s H E).nox (defBody s_is_integer) g_is_integer :=
  fun f cdv A outer s H E hr => dss_one (ds_ret (de_and (m' := .al) (de_callB (m := .al) call_isi (ra_isT T.R.toRatK .int) rfl T.z_isinstance (by decide +kernel) (da_cons (de_var (pv 0)) (da_cons (de_ty rfl T.z_int (by decide +kernel)) da_nil))) (de_one (de_not (m' := .al) (de_callB (m := .al) call_isi (ra_isT T.R.toRatK .bool) rfl T.z_isinstance (by decide +kernel) (da_cons (de_var (pv 0)) (da_cons (de_ty rfl T.z_bool (by decide +kernel)) da_nil)))))))
theorem df_is_integer (T : Tops P w K mg base) (F : Stands K mg "is_integer" s_is_integer)  : Dfn P w K mg base "is_integer" 1 ["value"] false d_is_integer :=
  dfn (g := g_is_integer) F sc_is_integer (by decide) (fun _ _ _ _ _ _ us hl => match us, hl with | [_], _ => rfl) (bd_is_integer T )

/-! ### is_count -/
abbrev s_is_count : Stmt := topS 10
abbrev n_is_count : List Str := ["value"]
theorem sc_is_count : FnScope n_is_count ["value"] (defScope s_is_count) := ⟨rfl, rfl, rfl, by decide +kernel, rfl, by decide +kernel, by decide +kernel⟩
noncomputable def g_is_count : SF := dRet (dAnd (dCall d_is_integer (dCons (dVar 0) (dNil))) (dBin gGe (dVar 0) (dK (.int 0))))
noncomputable def d_is_count : PF := defD 1 n_is_count false g_is_count
theorem bd_is_count (T : Tops P w K mg base) (G_is_integer : Dfn P w K mg base "is_integer" 1 ["value"] false d_is_integer) : ∀ (f : Addr) (cdv : Value) (A : Around) (outer : List PySem.Env) (s : Shared) (H : Hp) (E : XK), Room 1 (A.deeper (envOfC "is_count" (defScope s_is_count) s.heap.objs.size f cdv)) → DSs (cxOf CX0 P w K mg base n_is_count "is_count" (defScope s_is_count) f cdv A outer s H E).nox (defBody s_is_count) g_is_count :=
  fun f cdv A outer s H E hr => dss_one (ds_ret (de_and (m' := .al) (de_f G_is_integer (hr.mono (by decide)) rfl (da_cons (de_var (pv 0)) (da_nil))) (de_one (de_cmp (m := .al) op_ge r2_rel (de_var (pv 0)) (de_int) (nomark _)))))
theorem df_is_count (T : Tops P w K mg base) (F : Stands K mg "is_count" s_is_count) (G_is_integer : Dfn P w K mg base "is_integer" 1 ["value"] false d_is_integer) : Dfn P w K mg base "is_count" 2 ["value"] false d_is_count :=
  dfn (g := g_is_count) F sc_is_count (by decide) (fun _ _ _ _ _ _ us hl => match us, hl with | [_], _ => rfl) (bd_is_count T G_is_integer)

/-! ### is_list -/
abbrev s_is_list : Stmt := topS 11
abbrev n_is_list : List Str := ["value"]
theorem sc_is_list : FnScope n_is_list ["value"] (defScope s_is_list) := ⟨rfl, rfl, rfl, by decide +kernel, rfl, by decide +kernel, by decide +kernel⟩
noncomputable def g_is_list : SF := dRet (dApp (gIsTT .list .tuple) (dCons (dVar 0) (dCons (dTup (dCons (dK (.ty "list")) (dCons (dK (.ty "tuple")) dNil))) dNil)))
noncomputable def d_is_list : PF := defD 1 n_is_list false g_is_list
theorem bd_is_list (T : Tops P w K mg base)  : ∀ (f : Addr) (cdv : Value) (A : Around) (outer : List PySem.Env) (s : Shared) (H : Hp) (E : XK), Room 0 (A.deeper (envOfC "is_list" (defScope s_is_list) s.heap.objs.size f cdv)) → DSs (cxOf CX0 P w K mg base n_is_list "is_list" (defScope s_is_list) f cdv A outer s H E).nox (defBody s_is_list) g_is_list :=
  fun f cdv A outer s H E hr => dss_one (ds_ret (de_callB (m := .al) call_isiT (ra_isTT T.R.toRatK .list .tuple) rfl T.z_isinstance (by decide +kernel) (da_cons (de_var (pv 0)) (da_cons (de_tup (da_cons (de_ty rfl T.z_list (by decide +kernel)) (da_cons (de_ty rfl T.z_tuple (by decide +kernel)) da_nil))) da_nil))))
theorem df_is_list (T : Tops P w K mg base) (F : Stands K mg "is_list" s_is_list)  : Dfn P w K mg base "is_list" 1 ["value"] false d_is_list :=
  dfn (g := g_is_list) F sc_is_list (by decide) (fun _ _ _ _ _ _ us hl => match us, hl with | [_], _ => rfl) (bd_is_list T )

/-! ### digits_of -/
abbrev s_digits_of : Stmt := topS 14
abbrev n_digits_of : List Str := ["number", "sign", "left", "told", "part"]
theorem sc_digits_of : FnScope n_digits_of ["number"] (defScope s_digits_of) := ⟨rfl, rfl, rfl, by decide +kernel, rfl, by decide +kernel, by decide +kernel⟩
noncomputable def g_digits_of : SF := dSeq (dPar 2 3 (dIf (bOf (dBin gGe (dVar 0) (dK (.int 0)))) (dVar 0) (dBin gSub (dK (.int 0)) (dVar 0))) (dK (.str ""))) (dSeq (dWhile (bOf (dBin gGe (dVar 2) (dK (.int c_PART)))) dFail) (dSeq (dAsg (dIf (bOf (dBin gLt (dVar 0) (dK (.int 0)))) (dK (.str "-")) (dK (.str ""))) (tgName .al 1)) (dRet (dJoin [dVar 1, dVar 2, dVar 3]))))
noncomputable def d_digits_of : PF := defD 1 n_digits_of false g_digits_of
theorem bd_digits_of (T : Tops P w K mg base)  : ∀ (f : Addr) (cdv : Value) (A : Around) (outer : List PySem.Env) (s : Shared) (H : Hp) (E : XK), Room 0 (A.deeper (envOfC "digits_of" (defScope s_digits_of) s.heap.objs.size f cdv)) → DSs (cxOf CX0 P w K mg base n_digits_of "digits_of" (defScope s_digits_of) f cdv A outer s H E).nox (defBody s_digits_of) g_digits_of :=
  fun f cdv A outer s H E hr => dss_cons (ds_par rfl sc_digits_of.nd rfl rfl (by decide) rfl rfl (de_if (dt_cmp (m := .al) (m' := .al) op_ge r2_rel (de_var (pv 0)) (de_int) (nomark _)) (de_var (pv 0)) (de_op (m := .al) op_sub r2_sub (de_int) (de_var (pv 0)))) (de_str) rfl) (dss_cons (ds_while PassesOwn.never (dt_cmp (m := .al) (m' := .al) op_ge r2_rel (de_var (pv 2)) (de_K (v := .int c_PART) (pe_glob rfl T.c_PART.choose_spec ⟨_, rfl⟩) (fun _ _ _ => .int _)) (nomark _)) (dss_never)) (dss_cons (ds_set (i := 1) sc_digits_of.nd rfl (.inl rfl) (de_if (dt_cmp (m := .al) (m' := .al) op_lt r2_rel (de_var (pv 0)) (de_int) (nomark _)) (de_str) (de_str))) (dss_one (ds_ret (de_join (dj_fmt (m := .al) (de_var (pv 1)) (dj_fmt (m := .al) (de_var (pv 2)) (dj_fmt (m := .al) (de_var (pv 3)) (dj_nil)))))))))
theorem df_digits_of (T : Tops P w K mg base) (F : Stands K mg "digits_of" s_digits_of)  : Dfn P w K mg base "digits_of" 1 ["number"] false d_digits_of :=
  dfn (g := g_digits_of) F sc_digits_of (by decide) (fun _ _ _ _ _ _ us hl => match us, hl with | [_], _ => rfl) (bd_digits_of T )

/-! ### common_part -/
abbrev s_common_part : Stmt := topS 15
abbrev n_common_part : List Str := ["one", "other"]
theorem sc_common_part : FnScope n_common_part ["one", "other"] (defScope s_common_part) := ⟨rfl, rfl, rfl, by decide +kernel, rfl, by decide +kernel, by decide +kernel⟩
noncomputable def g_common_part : SF := dRet (dApp gGcd (dCons (dVar 0) (dCons (dVar 1) (dNil))))
noncomputable def d_common_part : PF := defD 2 n_common_part false g_common_part
theorem bd_common_part (T : Tops P w K mg base)  : ∀ (f : Addr) (cdv : Value) (A : Around) (outer : List PySem.Env) (s : Shared) (H : Hp) (E : XK), Room 0 (A.deeper (envOfC "common_part" (defScope s_common_part) s.heap.objs.size f cdv)) → DSs (cxOf CX0 P w K mg base n_common_part "common_part" (defScope s_common_part) f cdv A outer s H E).nox (defBody s_common_part) g_common_part :=
  fun f cdv A outer s H E hr => dss_one (ds_ret (de_callBfun (m := .al) cr_gcd ra_gcd rfl T.z_gcd (da_cons (de_var (pv 0)) (da_cons (de_var (pv 1)) (da_nil)))))
theorem df_common_part (T : Tops P w K mg base) (F : Stands K mg "common_part" s_common_part)  : Dfn P w K mg base "common_part" 1 ["one", "other"] false d_common_part :=
  dfn (g := g_common_part) F sc_common_part (by decide) (fun _ _ _ _ _ _ us hl => match us, hl with | [_, _], _ => rfl) (bd_common_part T )

/-! ### told_pair -/
abbrev s_told_pair : Stmt := topS 17
abbrev n_told_pair : List Str := ["value"]
theorem sc_told_pair : FnScope n_told_pair ["value"] (defScope s_told_pair) := ⟨rfl, rfl, rfl, by decide +kernel, rfl, by decide +kernel, by decide +kernel⟩
noncomputable def g_told_pair : SF := dSeq (dIte (bOf (dIsRat (dVar 0))) (dRet (dTup (dCons (dFld .own_top (dVar 0)) (dCons (dFld .own_bottom (dVar 0)) (dNil))))) (dNext)) (dSeq (dIte (bNot (bOf (dCall d_is_integer (dCons (dVar 0) (dNil))))) (dFail) (dNext)) (dRet (dTup (dCons (dVar 0) (dCons (dK (.int 1)) (dNil))))))
noncomputable def d_told_pair : PF := defD 1 n_told_pair false g_told_pair
theorem bd_told_pair (T : Tops P w K mg base) (G_is_integer : Dfn P w K mg base "is_integer" 1 ["value"] false d_is_integer) : ∀ (f : Addr) (cdv : Value) (A : Around) (outer : List PySem.Env) (s : Shared) (H : Hp) (E : XK), Room 1 (A.deeper (envOfC "told_pair" (defScope s_told_pair) s.heap.objs.size f cdv)) → DSs (cxOf CX0 P w K mg base n_told_pair "told_pair" (defScope s_told_pair) f cdv A outer s H E).nox (defBody s_told_pair) g_told_pair :=
  fun f cdv A outer s H E hr => dss_cons (ds_if (dt_val (m := .al) (de_isRat (m := .al) T.R.toRatK rfl T.z_isinstance rfl T.m_Ratio (de_var (pv 0)))) (dss_one (ds_ret (de_tup (da_cons (de_fld (m := .al) .own_top T.R (de_var (pv 0))) (da_cons (de_fld (m := .al) .own_bottom T.R (de_var (pv 0))) (da_nil)))))) (dss_nil)) (dss_cons (ds_if (dt_not (dt_val (m := .al) (de_f G_is_integer (hr.mono (by decide)) rfl (da_cons (de_var (pv 0)) (da_nil))))) (dss_one (ds_fail)) (dss_nil)) (dss_one (ds_ret (de_tup (da_cons (de_var (pv 0)) (da_cons (de_int) (da_nil)))))))
theorem df_told_pair (T : Tops P w K mg base) (F : Stands K mg "told_pair" s_told_pair) (G_is_integer : Dfn P w K mg base "is_integer" 1 ["value"] false d_is_integer) : Dfn P w K mg base "told_pair" 2 ["value"] false d_told_pair :=
  dfn (g := g_told_pair) F sc_told_pair (by decide) (fun _ _ _ _ _ _ us hl => match us, hl with | [_], _ => rfl) (bd_told_pair T G_is_integer)

/-! ### __init__ -/
abbrev s_Rt_init : Stmt := inClass (topS 16) 0
abbrev n_Rt_init : List Str := ["self", "top", "bottom", "common"]
theorem sc_Rt_init : FnScope n_Rt_init ["self", "top", "bottom"] (defScope s_Rt_init) := ⟨rfl, rfl, rfl, by decide +kernel, rfl, by decide +kernel, by decide +kernel⟩
noncomputable def gi_1 : SF := dIte (bNot (bOf (dCall d_is_integer (dCons (dVar 1) (dNil))))) (dFail) (dNext)
noncomputable def gi_2 : SF := dIte (bOr (bNot (bOf (dCall d_is_integer (dCons (dVar 2) (dNil))))) (bOf (dBin gEq (dVar 2) (dK (.int 0))))) (dFail) (dNext)
noncomputable def gi_3 : SF := dAsg (dCall d_common_part (dCons (dVar 1) (dCons (dVar 2) (dNil)))) (tgName .al 3)
noncomputable def gi_4 : SF := dIte (bOf (dBin gLt (dVar 2) (dK (.int 0)))) (dAsg (dBin gSub (dK (.int 0)) (dVar 3)) (tgName .al 3)) (dNext)
noncomputable def gi_5 : EF := dBin gFdiv (dVar 1) (dVar 3)
noncomputable def gi_6 : EF := dBin gFdiv (dVar 2) (dVar 3)
theorem bd_Rt_init (T : Tops P w K mg base) (G_is_integer : Dfn P w K mg base "is_integer" 1 ["value"] false d_is_integer) (G_common_part : Dfn P w K mg base "common_part" 1 ["one", "other"] false d_common_part) : ∀ (f : Addr) (cdv : Value) (A : Around) (outer : List PySem.Env) (s : Shared) (H : Hp) (E : XK), Room 1 (A.deeper (envOfC "Ratio.__init__" (defScope s_Rt_init) s.heap.objs.size f cdv)) →
    PSs (cxOf CX0 P w K mg base n_Rt_init "Ratio.__init__" (defScope s_Rt_init) f cdv A outer s H E).nox (defBody s_Rt_init) (tSeq (tDS (clsM mg) gi_1) (tSeq (tDS (clsM mg) gi_2) (tSeq (tDS (clsM mg) gi_3) (tSeq (tDS (clsM mg) gi_4) (tSeq (sFld K (tVar 0) (tD (clsM mg) .al gi_5) "own_top") (sFld K (tVar 0) (tD (clsM mg) .al gi_6) "own_bottom")))))) :=
  fun f cdv A outer s H E hr => pss_cons (ds_if (dt_not (dt_val (m := .al) (de_f G_is_integer (hr.mono (by decide)) rfl (da_cons (de_var (pv 1)) (da_nil))))) (dss_one (ds_fail)) (dss_nil)) (pss_cons (ds_if (dt_w (dw_or (dt_not (dt_val (m := .al) (de_f G_is_integer (hr.mono (by decide)) rfl (da_cons (de_var (pv 2)) (da_nil))))) (dw_or1 (dt_cmp (m := .al) (m' := .al) (op_eqD hr.units) r2_eq (de_var (pv 2)) (de_int) (nomark _))))) (dss_one (ds_fail)) (dss_nil)) (pss_cons (ds_set (i := 3) sc_Rt_init.nd rfl (.inl rfl) (de_f G_common_part (hr.mono (by decide)) rfl (da_cons (de_var (pv 1)) (da_cons (de_var (pv 2)) (da_nil))))) (pss_cons (ds_if (dt_cmp (m := .al) (m' := .al) op_lt r2_rel (de_var (pv 2)) (de_int) (nomark _)) (dss_one (ds_set (i := 3) sc_Rt_init.nd rfl (.inl rfl) (de_op (m := .al) op_sub r2_sub (de_int) (de_var (pv 3))))) (dss_nil)) (pss_cons (ps_fld (pv 0) (de_op (m := .al) op_fdivA r2_fdiv (de_var (pv 1)) (de_var (pv 3))) rfl) (pss_one (ps_fld (pv 0) (de_op (m := .al) op_fdivA r2_fdiv (de_var (pv 2)) (de_var (pv 3))) rfl))))))

/-! ### top -/
abbrev s_Rt_top : Stmt := inClass (topS 16) 1
abbrev n_Rt_top : List Str := ["self"]
theorem sc_Rt_top : FnScope n_Rt_top ["self"] (defScope s_Rt_top) := ⟨rfl, rfl, rfl, by decide +kernel, rfl, by decide +kernel, by decide +kernel⟩
noncomputable def g_Rt_top : SF := dRet (dFld .own_top (dVar 0))
noncomputable def d_Rt_top : PF := defD 1 n_Rt_top false g_Rt_top
theorem bd_Rt_top (T : Tops P w K mg base)  : ∀ (f : Addr) (cdv : Value) (A : Around) (outer : List PySem.Env) (s : Shared) (H : Hp) (E : XK), Room 0 (A.deeper (envOfC "Ratio.top" (defScope s_Rt_top) s.heap.objs.size f cdv)) → DSs (cxOf CX0 P w K mg base n_Rt_top "Ratio.top" (defScope s_Rt_top) f cdv A outer s H E).nox (defBody s_Rt_top) g_Rt_top :=
  fun f cdv A outer s H E hr => dss_one (ds_ret (de_fld (m := .al) .own_top T.R (de_var (pv 0))))
theorem fm_Rt_top (T : Tops P w K mg base)  {g : Addr} {fd : FuncData} (F : L2.Fun K "top" "Ratio.top" s_Rt_top g fd) : FnOk P w K mg base CX0 1 g fd ["self"] (spD (clsM mg) false d_Rt_top) ∧ L2.Binds K fd ["self"] [] :=
  ⟨dok (g := g_Rt_top) F sc_Rt_top (by decide) (bd_Rt_top T  g), F.binds (fun _ _ _ _ _ _ us hl => match us, hl with | [_], _ => rfl)⟩

/-! ### bottom -/
abbrev s_Rt_bottom : Stmt := inClass (topS 16) 2
abbrev n_Rt_bottom : List Str := ["self"]
theorem sc_Rt_bottom : FnScope n_Rt_bottom ["self"] (defScope s_Rt_bottom) := ⟨rfl, rfl, rfl, by decide +kernel, rfl, by decide +kernel, by decide +kernel⟩
noncomputable def g_Rt_bottom : SF := dRet (dFld .own_bottom (dVar 0))
noncomputable def d_Rt_bottom : PF := defD 1 n_Rt_bottom false g_Rt_bottom
theorem bd_Rt_bottom (T : Tops P w K mg base)  : ∀ (f : Addr) (cdv : Value) (A : Around) (outer : List PySem.Env) (s : Shared) (H : Hp) (E : XK), Room 0 (A.deeper (envOfC "Ratio.bottom" (defScope s_Rt_bottom) s.heap.objs.size f cdv)) → DSs (cxOf CX0 P w K mg base n_Rt_bottom "Ratio.bottom" (defScope s_Rt_bottom) f cdv A outer s H E).nox (defBody s_Rt_bottom) g_Rt_bottom :=
  fun f cdv A outer s H E hr => dss_one (ds_ret (de_fld (m := .al) .own_bottom T.R (de_var (pv 0))))
theorem fm_Rt_bottom (T : Tops P w K mg base)  {g : Addr} {fd : FuncData} (F : L2.Fun K "bottom" "Ratio.bottom" s_Rt_bottom g fd) : FnOk P w K mg base CX0 1 g fd ["self"] (spD (clsM mg) false d_Rt_bottom) ∧ L2.Binds K fd ["self"] [] :=
  ⟨dok (g := g_Rt_bottom) F sc_Rt_bottom (by decide) (bd_Rt_bottom T  g), F.binds (fun _ _ _ _ _ _ us hl => match us, hl with | [_], _ => rfl)⟩

/-! ### sign -/
abbrev s_Rt_sign : Stmt := inClass (topS 16) 3
abbrev n_Rt_sign : List Str := ["self"]
theorem sc_Rt_sign : FnScope n_Rt_sign ["self"] (defScope s_Rt_sign) := ⟨rfl, rfl, rfl, by decide +kernel, rfl, by decide +kernel, by decide +kernel⟩
noncomputable def g_Rt_sign : SF := dRet (dBin gSub (dApp gInt (dCons (dBin gGt (dFld .own_top (dVar 0)) (dK (.int 0))) (dNil))) (dApp gInt (dCons (dBin gLt (dFld .own_top (dVar 0)) (dK (.int 0))) (dNil))))
noncomputable def d_Rt_sign : PF := defD 1 n_Rt_sign false g_Rt_sign
theorem bd_Rt_sign (T : Tops P w K mg base)  : ∀ (f : Addr) (cdv : Value) (A : Around) (outer : List PySem.Env) (s : Shared) (H : Hp) (E : XK), Room 0 (A.deeper (envOfC "Ratio.sign" (defScope s_Rt_sign) s.heap.objs.size f cdv)) → DSs (cxOf CX0 P w K mg base n_Rt_sign "Ratio.sign" (defScope s_Rt_sign) f cdv A outer s H E).nox (defBody s_Rt_sign) g_Rt_sign :=
  fun f cdv A outer s H E hr => dss_one (ds_ret (de_op (m := .al) op_sub r2_sub (de_callTy (m := .al) call_int1 ra_int rfl T.z_int (by decide +kernel) (da_cons (de_cmp (m := .al) op_gt r2_rel (de_fld (m := .al) .own_top T.R (de_var (pv 0))) (de_int) (nomark _)) (da_nil))) (de_callTy (m := .al) call_int1 ra_int rfl T.z_int (by decide +kernel) (da_cons (de_cmp (m := .al) op_lt r2_rel (de_fld (m := .al) .own_top T.R (de_var (pv 0))) (de_int) (nomark _)) (da_nil)))))
theorem fm_Rt_sign (T : Tops P w K mg base)  {g : Addr} {fd : FuncData} (F : L2.Fun K "sign" "Ratio.sign" s_Rt_sign g fd) : FnOk P w K mg base CX0 1 g fd ["self"] (spD (clsM mg) false d_Rt_sign) ∧ L2.Binds K fd ["self"] [] :=
  ⟨dok (g := g_Rt_sign) F sc_Rt_sign (by decide) (bd_Rt_sign T  g), F.binds (fun _ _ _ _ _ _ us hl => match us, hl with | [_], _ => rfl)⟩

/-! ### __add__ -/
abbrev s_Rt_add : Stmt := inClass (topS 16) 6
abbrev n_Rt_add : List Str := ["self", "other", "top", "bottom"]
theorem sc_Rt_add : FnScope n_Rt_add ["self", "other"] (defScope s_Rt_add) := ⟨rfl, rfl, rfl, by decide +kernel, rfl, by decide +kernel, by decide +kernel⟩
noncomputable def g_Rt_add : SF := dSeq (dAsg (dCall d_told_pair (dCons (dVar 1) (dNil))) (tgTup .al [2, 3])) (dRet (dCall (fun a => mkRat (a ++ [])) (dCons (dBin gAdd (dBin gMul (dFld .own_top (dVar 0)) (dVar 3)) (dBin gMul (dVar 2) (dFld .own_bottom (dVar 0)))) (dCons (dBin gMul (dFld .own_bottom (dVar 0)) (dVar 3)) (dNil)))))
noncomputable def d_Rt_add : PF := defD 2 n_Rt_add false g_Rt_add
theorem bd_Rt_add (T : Tops P w K mg base) (G_told_pair : Dfn P w K mg base "told_pair" 2 ["value"] false d_told_pair) (MK : Mkr P w K mg base 2) : ∀ (f : Addr) (cdv : Value) (A : Around) (outer : List PySem.Env) (s : Shared) (H : Hp) (E : XK), Room 3 (A.deeper (envOfC "Ratio.__add__" (defScope s_Rt_add) s.heap.objs.size f cdv)) → DSs (cxOf CX0 P w K mg base n_Rt_add "Ratio.__add__" (defScope s_Rt_add) f cdv A outer s H E).nox (defBody s_Rt_add) g_Rt_add :=
  fun f cdv A outer s H E hr => dss_cons (ds_asg (de_f G_told_pair (hr.mono (by decide)) rfl (da_cons (de_var (pv 1)) (da_nil))) (dg_tup rfl (dgs_cons (pg_name (i := 2) sc_Rt_add.nd rfl (.inl rfl)) (dgs_cons (pg_name (i := 3) sc_Rt_add.nd rfl (.inl rfl)) (dgs_nil))))) (dss_one (ds_ret (de_mk2 (m := .al) MK (hr.mono (by decide)) rfl (da_cons (de_op op_addA r2_add (de_op op_mulA r2_mul (de_fld (m := .al) .own_top T.R (de_var (pv 0))) (de_var (pv 3))) (de_op op_mulA r2_mul (de_var (pv 2)) (de_fld (m := .al) .own_bottom T.R (de_var (pv 0))))) (da_cons (de_op op_mulA r2_mul (de_fld (m := .al) .own_bottom T.R (de_var (pv 0))) (de_var (pv 3))) (da_nil))))))
theorem fm_Rt_add (T : Tops P w K mg base) (G_told_pair : Dfn P w K mg base "told_pair" 2 ["value"] false d_told_pair) (MK : Mkr P w K mg base 2) {g : Addr} {fd : FuncData} (F : L2.Fun K "__add__" "Ratio.__add__" s_Rt_add g fd) : FnOk P w K mg base CX0 4 g fd ["self", "other"] (spD (clsM mg) false d_Rt_add) ∧ L2.Binds K fd ["self", "other"] [] :=
  ⟨dok (g := g_Rt_add) F sc_Rt_add (by decide) (bd_Rt_add T G_told_pair MK g), F.binds (fun _ _ _ _ _ _ us hl => match us, hl with | [_, _], _ => rfl)⟩

/-! ### __sub__ -/
abbrev s_Rt_sub : Stmt := inClass (topS 16) 8
abbrev n_Rt_sub : List Str := ["self", "other", "top", "bottom"]
theorem sc_Rt_sub : FnScope n_Rt_sub ["self", "other"] (defScope s_Rt_sub) := ⟨rfl, rfl, rfl, by decide +kernel, rfl, by decide +kernel, by decide +kernel⟩
noncomputable def g_Rt_sub : SF := dSeq (dAsg (dCall d_told_pair (dCons (dVar 1) (dNil))) (tgTup .al [2, 3])) (dRet (dCall (fun a => mkRat (a ++ [])) (dCons (dBin gSub (dBin gMul (dFld .own_top (dVar 0)) (dVar 3)) (dBin gMul (dVar 2) (dFld .own_bottom (dVar 0)))) (dCons (dBin gMul (dFld .own_bottom (dVar 0)) (dVar 3)) (dNil)))))
noncomputable def d_Rt_sub : PF := defD 2 n_Rt_sub false g_Rt_sub
theorem bd_Rt_sub (T : Tops P w K mg base) (G_told_pair : Dfn P w K mg base "told_pair" 2 ["value"] false d_told_pair) (MK : Mkr P w K mg base 2) : ∀ (f : Addr) (cdv : Value) (A : Around) (outer : List PySem.Env) (s : Shared) (H : Hp) (E : XK), Room 3 (A.deeper (envOfC "Ratio.__sub__" (defScope s_Rt_sub) s.heap.objs.size f cdv)) → DSs (cxOf CX0 P w K mg base n_Rt_sub "Ratio.__sub__" (defScope s_Rt_sub) f cdv A outer s H E).nox (defBody s_Rt_sub) g_Rt_sub :=
  fun f cdv A outer s H E hr => dss_cons (ds_asg (de_f G_told_pair (hr.mono (by decide)) rfl (da_cons (de_var (pv 1)) (da_nil))) (dg_tup rfl (dgs_cons (pg_name (i := 2) sc_Rt_sub.nd rfl (.inl rfl)) (dgs_cons (pg_name (i := 3) sc_Rt_sub.nd rfl (.inl rfl)) (dgs_nil))))) (dss_one (ds_ret (de_mk2 (m := .al) MK (hr.mono (by decide)) rfl (da_cons (de_op (m := .al) op_sub r2_sub (de_op op_mulA r2_mul (de_fld (m := .al) .own_top T.R (de_var (pv 0))) (de_var (pv 3))) (de_op op_mulA r2_mul (de_var (pv 2)) (de_fld (m := .al) .own_bottom T.R (de_var (pv 0))))) (da_cons (de_op op_mulA r2_mul (de_fld (m := .al) .own_bottom T.R (de_var (pv 0))) (de_var (pv 3))) (da_nil))))))
theorem fm_Rt_sub (T : Tops P w K mg base) (G_told_pair : Dfn P w K mg base "told_pair" 2 ["value"] false d_told_pair) (MK : Mkr P w K mg base 2) {g : Addr} {fd : FuncData} (F : L2.Fun K "__sub__" "Ratio.__sub__" s_Rt_sub g fd) : FnOk P w K mg base CX0 4 g fd ["self", "other"] (spD (clsM mg) false d_Rt_sub) ∧ L2.Binds K fd ["self", "other"] [] :=
  ⟨dok (g := g_Rt_sub) F sc_Rt_sub (by decide) (bd_Rt_sub T G_told_pair MK g), F.binds (fun _ _ _ _ _ _ us hl => match us, hl with | [_, _], _ => rfl)⟩

/-! ### __mul__ -/
abbrev s_Rt_mul : Stmt := inClass (topS 16) 10
abbrev n_Rt_mul : List Str := ["self", "other", "top", "bottom"]
theorem sc_Rt_mul : FnScope n_Rt_mul ["self", "other"] (defScope s_Rt_mul) := ⟨rfl, rfl, rfl, by decide +kernel, rfl, by decide +kernel, by decide +kernel⟩
noncomputable def g_Rt_mul : SF := dSeq (dAsg (dCall d_told_pair (dCons (dVar 1) (dNil))) (tgTup .al [2, 3])) (dRet (dCall (fun a => mkRat (a ++ [])) (dCons (dBin gMul (dFld .own_top (dVar 0)) (dVar 2)) (dCons (dBin gMul (dFld .own_bottom (dVar 0)) (dVar 3)) (dNil)))))
noncomputable def d_Rt_mul : PF := defD 2 n_Rt_mul false g_Rt_mul
theorem bd_Rt_mul (T : Tops P w K mg base) (G_told_pair : Dfn P w K mg base "told_pair" 2 ["value"] false d_told_pair) (MK : Mkr P w K mg base 2) : ∀ (f : Addr) (cdv : Value) (A : Around) (outer : List PySem.Env) (s : Shared) (H : Hp) (E : XK), Room 3 (A.deeper (envOfC "Ratio.__mul__" (defScope s_Rt_mul) s.heap.objs.size f cdv)) → DSs (cxOf CX0 P w K mg base n_Rt_mul "Ratio.__mul__" (defScope s_Rt_mul) f cdv A outer s H E).nox (defBody s_Rt_mul) g_Rt_mul :=
  fun f cdv A outer s H E hr => dss_cons (ds_asg (de_f G_told_pair (hr.mono (by decide)) rfl (da_cons (de_var (pv 1)) (da_nil))) (dg_tup rfl (dgs_cons (pg_name (i := 2) sc_Rt_mul.nd rfl (.inl rfl)) (dgs_cons (pg_name (i := 3) sc_Rt_mul.nd rfl (.inl rfl)) (dgs_nil))))) (dss_one (ds_ret (de_mk2 (m := .al) MK (hr.mono (by decide)) rfl (da_cons (de_op op_mulA r2_mul (de_fld (m := .al) .own_top T.R (de_var (pv 0))) (de_var (pv 2))) (da_cons (de_op op_mulA r2_mul (de_fld (m := .al) .own_bottom T.R (de_var (pv 0))) (de_var (pv 3))) (da_nil))))))
theorem fm_Rt_mul (T : Tops P w K mg base) (G_told_pair : Dfn P w K mg base "told_pair" 2 ["value"] false d_told_pair) (MK : Mkr P w K mg base 2) {g : Addr} {fd : FuncData} (F : L2.Fun K "__mul__" "Ratio.__mul__" s_Rt_mul g fd) : FnOk P w K mg base CX0 4 g fd ["self", "other"] (spD (clsM mg) false d_Rt_mul) ∧ L2.Binds K fd ["self", "other"] [] :=
  ⟨dok (g := g_Rt_mul) F sc_Rt_mul (by decide) (bd_Rt_mul T G_told_pair MK g), F.binds (fun _ _ _ _ _ _ us hl => match us, hl with | [_, _], _ => rfl)⟩

/-! ### __neg__ -/
abbrev s_Rt_neg : Stmt := inClass (topS 16) 12
abbrev n_Rt_neg : List Str := ["self"]
theorem sc_Rt_neg : FnScope n_Rt_neg ["self"] (defScope s_Rt_neg) := ⟨rfl, rfl, rfl, by decide +kernel, rfl, by decide +kernel, by decide +kernel⟩
noncomputable def g_Rt_neg : SF := dRet (dCall (fun a => mkRat (a ++ [])) (dCons (dBin gSub (dK (.int 0)) (dFld .own_top (dVar 0))) (dCons (dFld .own_bottom (dVar 0)) (dNil))))
noncomputable def d_Rt_neg : PF := defD 1 n_Rt_neg false g_Rt_neg
theorem bd_Rt_neg (T : Tops P w K mg base) (MK : Mkr P w K mg base 2) : ∀ (f : Addr) (cdv : Value) (A : Around) (outer : List PySem.Env) (s : Shared) (H : Hp) (E : XK), Room 3 (A.deeper (envOfC "Ratio.__neg__" (defScope s_Rt_neg) s.heap.objs.size f cdv)) → DSs (cxOf CX0 P w K mg base n_Rt_neg "Ratio.__neg__" (defScope s_Rt_neg) f cdv A outer s H E).nox (defBody s_Rt_neg) g_Rt_neg :=
  fun f cdv A outer s H E hr => dss_one (ds_ret (de_mk2 (m := .al) MK (hr.mono (by decide)) rfl (da_cons (de_op (m := .al) op_sub r2_sub (de_int) (de_fld (m := .al) .own_top T.R (de_var (pv 0)))) (da_cons (de_fld (m := .al) .own_bottom T.R (de_var (pv 0))) (da_nil)))))
theorem fm_Rt_neg (T : Tops P w K mg base) (MK : Mkr P w K mg base 2) {g : Addr} {fd : FuncData} (F : L2.Fun K "__neg__" "Ratio.__neg__" s_Rt_neg g fd) : FnOk P w K mg base CX0 4 g fd ["self"] (spD (clsM mg) false d_Rt_neg) ∧ L2.Binds K fd ["self"] [] :=
  ⟨dok (g := g_Rt_neg) F sc_Rt_neg (by decide) (bd_Rt_neg T MK g), F.binds (fun _ _ _ _ _ _ us hl => match us, hl with | [_], _ => rfl)⟩

/-! ### __eq__ -/
abbrev s_Rt_eq : Stmt := inClass (topS 16) 17
abbrev n_Rt_eq : List Str := ["self", "other"]
theorem sc_Rt_eq : FnScope n_Rt_eq ["self", "other"] (defScope s_Rt_eq) := ⟨rfl, rfl, rfl, by decide +kernel, rfl, by decide +kernel, by decide +kernel⟩
noncomputable def g_Rt_eq : SF := dSeq (dIte (bNot (bOf (dIsRat (dVar 1)))) (dRet (dK (.bl false))) (dNext)) (dRet (dAnd (dBin gEq (dFld .own_top (dVar 0)) (dFld .own_top (dVar 1))) (dBin gEq (dFld .own_bottom (dVar 0)) (dFld .own_bottom (dVar 1)))))
noncomputable def d_Rt_eq : PF := defD 2 n_Rt_eq false g_Rt_eq
theorem bd_Rt_eq (T : Tops P w K mg base)  : ∀ (f : Addr) (cdv : Value) (A : Around) (outer : List PySem.Env) (s : Shared) (H : Hp) (E : XK), Room 0 (A.deeper (envOfC "Ratio.__eq__" (defScope s_Rt_eq) s.heap.objs.size f cdv)) → DSs (cxOf CX0 P w K mg base n_Rt_eq "Ratio.__eq__" (defScope s_Rt_eq) f cdv A outer s H E).nox (defBody s_Rt_eq) g_Rt_eq :=
  fun f cdv A outer s H E hr => dss_cons (ds_if (dt_not (dt_val (m := .al) (de_isRat (m := .al) T.R.toRatK rfl T.z_isinstance rfl T.m_Ratio (de_var (pv 1))))) (dss_one (ds_ret (de_bl))) (dss_nil)) (dss_one (ds_ret (de_and (m' := .al) (de_cmp (m := .al) (op_eqD hr.units) r2_eq (de_fld (m := .al) .own_top T.R (de_var (pv 0))) (de_fld (m := .al) .own_top T.R (de_var (pv 1))) (nomark _)) (de_one (de_cmp (m := .al) (op_eqD hr.units) r2_eq (de_fld (m := .al) .own_bottom T.R (de_var (pv 0))) (de_fld (m := .al) .own_bottom T.R (de_var (pv 1))) (nomark _))))))
theorem fm_Rt_eq (T : Tops P w K mg base)  {g : Addr} {fd : FuncData} (F : L2.Fun K "__eq__" "Ratio.__eq__" s_Rt_eq g fd) : FnOk P w K mg base CX0 1 g fd ["self", "other"] (spD (clsM mg) false d_Rt_eq) ∧ L2.Binds K fd ["self", "other"] [] :=
  ⟨dok (g := g_Rt_eq) F sc_Rt_eq (by decide) (bd_Rt_eq T  g), F.binds (fun _ _ _ _ _ _ us hl => match us, hl with | [_, _], _ => rfl)⟩

/-! ### __repr__ -/
abbrev s_Rt_repr : Stmt := inClass (topS 16) 19
abbrev n_Rt_repr : List Str := ["self"]
theorem sc_Rt_repr : FnScope n_Rt_repr ["self"] (defScope s_Rt_repr) := ⟨rfl, rfl, rfl, by decide +kernel, rfl, by decide +kernel, by decide +kernel⟩
noncomputable def g_Rt_repr : SF := dRet (dJoin [dK (.str "Ratio("), dCall d_digits_of (dCons (dFld .own_top (dVar 0)) (dNil)), dK (.str ", "), dCall d_digits_of (dCons (dFld .own_bottom (dVar 0)) (dNil)), dK (.str ")")])
noncomputable def d_Rt_repr : PF := defD 1 n_Rt_repr false g_Rt_repr
theorem bd_Rt_repr (T : Tops P w K mg base) (G_digits_of : Dfn P w K mg base "digits_of" 1 ["number"] false d_digits_of) : ∀ (f : Addr) (cdv : Value) (A : Around) (outer : List PySem.Env) (s : Shared) (H : Hp) (E : XK), Room 1 (A.deeper (envOfC "Ratio.__repr__" (defScope s_Rt_repr) s.heap.objs.size f cdv)) → DSs (cxOf CX0 P w K mg base n_Rt_repr "Ratio.__repr__" (defScope s_Rt_repr) f cdv A outer s H E).nox (defBody s_Rt_repr) g_Rt_repr :=
  fun f cdv A outer s H E hr => dss_one (ds_ret (de_join (dj_con (m := .al) (de_str) (fun _ _ _ h => by cases h; exact ⟨_, rfl⟩) (dj_fmt (m := .al) (de_f G_digits_of (hr.mono (by decide)) rfl (da_cons (de_fld (m := .al) .own_top T.R (de_var (pv 0))) (da_nil))) (dj_con (m := .al) (de_str) (fun _ _ _ h => by cases h; exact ⟨_, rfl⟩) (dj_fmt (m := .al) (de_f G_digits_of (hr.mono (by decide)) rfl (da_cons (de_fld (m := .al) .own_bottom T.R (de_var (pv 0))) (da_nil))) (dj_con (m := .al) (de_str) (fun _ _ _ h => by cases h; exact ⟨_, rfl⟩) (dj_nil))))))))
theorem fm_Rt_repr (T : Tops P w K mg base) (G_digits_of : Dfn P w K mg base "digits_of" 1 ["number"] false d_digits_of) {g : Addr} {fd : FuncData} (F : L2.Fun K "__repr__" "Ratio.__repr__" s_Rt_repr g fd) : FnOk P w K mg base CX0 2 g fd ["self"] (spD (clsM mg) false d_Rt_repr) ∧ L2.Binds K fd ["self"] [] :=
  ⟨dok (g := g_Rt_repr) F sc_Rt_repr (by decide) (bd_Rt_repr T G_digits_of g), F.binds (fun _ _ _ _ _ _ us hl => match us, hl with | [_], _ => rfl)⟩

/-! ### is_number -/
abbrev s_is_number : Stmt := topS 18
abbrev n_is_number : List Str := ["value"]
theorem sc_is_number : FnScope n_is_number ["value"] (defScope s_is_number) := ⟨rfl, rfl, rfl, by decide +kernel, rfl, by decide +kernel, by decide +kernel⟩
noncomputable def g_is_number : SF := dRet (dOr (dCall d_is_integer (dCons (dVar 0) (dNil))) (dIsRat (dVar 0)))
noncomputable def d_is_number : PF := defD 1 n_is_number false g_is_number
theorem bd_is_number (T : Tops P w K mg base) (G_is_integer : Dfn P w K mg base "is_integer" 1 ["value"] false d_is_integer) : ∀ (f : Addr) (cdv : Value) (A : Around) (outer : List PySem.Env) (s : Shared) (H : Hp) (E : XK), Room 1 (A.deeper (envOfC "is_number" (defScope s_is_number) s.heap.objs.size f cdv)) → DSs (cxOf CX0 P w K mg base n_is_number "is_number" (defScope s_is_number) f cdv A outer s H E).nox (defBody s_is_number) g_is_number :=
  fun f cdv A outer s H E hr => dss_one (ds_ret (de_or (m' := .al) (de_f G_is_integer (hr.mono (by decide)) rfl (da_cons (de_var (pv 0)) (da_nil))) (de_one (de_isRat (m := .al) T.R.toRatK rfl T.z_isinstance rfl T.m_Ratio (de_var (pv 0))))))
theorem df_is_number (T : Tops P w K mg base) (F : Stands K mg "is_number" s_is_number) (G_is_integer : Dfn P w K mg base "is_integer" 1 ["value"] false d_is_integer) : Dfn P w K mg base "is_number" 2 ["value"] false d_is_number :=
  dfn (g := g_is_number) F sc_is_number (by decide) (fun _ _ _ _ _ _ us hl => match us, hl with | [_], _ => rfl) (bd_is_number T G_is_integer)

/-! ### ratio_of -/
abbrev s_ratio_of : Stmt := topS 19
abbrev n_ratio_of : List Str := ["number"]
theorem sc_ratio_of : FnScope n_ratio_of ["number"] (defScope s_ratio_of) := ⟨rfl, rfl, rfl, by decide +kernel, rfl, by decide +kernel, by decide +kernel⟩
noncomputable def g_ratio_of : SF := dRet (dIf (bOf (dIsRat (dVar 0))) (dVar 0) (dCall (fun a => mkRat (a ++ [.int 1])) (dCons (dVar 0) (dNil))))
noncomputable def d_ratio_of : PF := defD 1 n_ratio_of false g_ratio_of
theorem bd_ratio_of (T : Tops P w K mg base) (MK : Mkr P w K mg base 2) : ∀ (f : Addr) (cdv : Value) (A : Around) (outer : List PySem.Env) (s : Shared) (H : Hp) (E : XK), Room 3 (A.deeper (envOfC "ratio_of" (defScope s_ratio_of) s.heap.objs.size f cdv)) → DSs (cxOf CX0 P w K mg base n_ratio_of "ratio_of" (defScope s_ratio_of) f cdv A outer s H E).nox (defBody s_ratio_of) g_ratio_of :=
  fun f cdv A outer s H E hr => dss_one (ds_ret (de_if (dt_val (m := .al) (de_isRat (m := .al) T.R.toRatK rfl T.z_isinstance rfl T.m_Ratio (de_var (pv 0)))) (de_var (pv 0)) (de_mk1 (m := .al) MK (hr.mono (by decide)) rfl (da_cons (de_var (pv 0)) (da_nil)))))
theorem df_ratio_of (T : Tops P w K mg base) (F : Stands K mg "ratio_of" s_ratio_of) (MK : Mkr P w K mg base 2) : Dfn P w K mg base "ratio_of" 4 ["number"] false d_ratio_of :=
  dfn (g := g_ratio_of) F sc_ratio_of (by decide) (fun _ _ _ _ _ _ us hl => match us, hl with | [_], _ => rfl) (bd_ratio_of T MK)

/-! ### wholes -/
abbrev s_wholes : Stmt := topS 20
abbrev n_wholes : List Str := ["ratios", "bottom", "ratio"]
theorem sc_wholes : FnScope n_wholes ["ratios"] (defScope s_wholes) := ⟨rfl, rfl, rfl, by decide +kernel, rfl, by decide +kernel, by decide +kernel⟩
noncomputable def g_wholes : SF := dSeq (dAsg (dK (.int 1)) (tgName .al 1)) (dSeq (dFor (lOf (dVar 0)) (tgName .al 2) (dAsg (dApp gLcm (dCons (dVar 1) (dCons (dFld .own_bottom (dVar 2)) (dNil)))) (tgName .al 1))) (dRet (dTup (dCons (dVar 1) (dCons (eL (lComp [2] (lOf (dVar 0)) (tgName .al 2) (bTrue) (dBin gMul (dFld .own_top (dVar 2)) (dBin gFdiv (dVar 1) (dFld .own_bottom (dVar 2)))))) (dNil))))))
noncomputable def d_wholes : PF := defD 1 n_wholes false g_wholes
theorem bd_wholes (T : Tops P w K mg base)  : ∀ (f : Addr) (cdv : Value) (A : Around) (outer : List PySem.Env) (s : Shared) (H : Hp) (E : XK), Room 0 (A.deeper (envOfC "wholes" (defScope s_wholes) s.heap.objs.size f cdv)) → DSs (cxOf CX0 P w K mg base n_wholes "wholes" (defScope s_wholes) f cdv A outer s H E).nox (defBody s_wholes) g_wholes :=
  fun f cdv A outer s H E hr => dss_cons (ds_set (i := 1) sc_wholes.nd rfl (.inr rfl) (de_int)) (dss_cons (ds_for PassesOwn.never rfl (di_list (dsrc (de_var (pv 0)))) (dg_name (pg_name (i := 2) sc_wholes.nd rfl (.inl rfl))) (dss_one (ds_set (i := 1) sc_wholes.nd rfl (.inr rfl) (de_callBfun (m := .al) cr_lcm ra_lcm rfl T.z_lcm (da_cons (de_var (pv 1)) (da_cons (de_fld (m := .al) .own_bottom T.R (de_var (pv 2))) (da_nil))))))) (dss_one (ds_ret (de_tup (da_cons (de_var (pv 1)) (da_cons (de_new (dn_comp (own := [("ratio", 2)]) (sf := false) rfl sc_wholes.nd (di_list (dsrc (de_var (pv 0)))) (blkOk_by (N := n_wholes) (sc := defScope s_wholes) (by decide +kernel)) (fun _ _ _ _ _ => dg_name (pg_name (i := 2) sc_wholes.nd rfl (.inl rfl))) (fun _ _ _ _ _ => dts_nil) (fun _ _ _ _ _ => de_op op_mulA r2_mul (de_fld (m := .al) .own_top T.R (de_var (pv 2))) (de_op (m := .al) op_fdivA r2_fdiv (de_var (pv 1)) (de_fld (m := .al) .own_bottom T.R (de_var (pv 2))))) tgOk_name (by decide))) (da_nil)))))))
theorem df_wholes (T : Tops P w K mg base) (F : Stands K mg "wholes" s_wholes)  : Dfn P w K mg base "wholes" 1 ["ratios"] false d_wholes :=
  dfn (g := g_wholes) F sc_wholes (by decide) (fun _ _ _ _ _ _ us hl => match us, hl with | [_], _ => rfl) (bd_wholes T )

/-! ### total_of -/
abbrev s_total_of : Stmt := topS 21
abbrev n_total_of : List Str := ["ratios", "found", "ratio"]
theorem sc_total_of : FnScope n_total_of ["ratios"] (defScope s_total_of) := ⟨rfl, rfl, rfl, by decide +kernel, rfl, by decide +kernel, by decide +kernel⟩
noncomputable def g_total_of : SF := dSeq (dAsg (dCall (fun a => mkRat (a ++ [.int 1])) (dCons (dK (.int 0)) (dNil))) (tgName .al 1)) (dSeq (dFor (lOf (dVar 0)) (tgName .al 2) (dAsg (dBop d_Rt_add (dVar 1) (dVar 2)) (tgName .al 1))) (dRet (dVar 1)))
noncomputable def d_total_of : PF := defD 1 n_total_of false g_total_of
theorem bd_total_of (T : Tops P w K mg base) (MK : Mkr P w K mg base 2) (B_add : Bop P w K mg base .Add 4 d_Rt_add) : ∀ (f : Addr) (cdv : Value) (A : Around) (outer : List PySem.Env) (s : Shared) (H : Hp) (E : XK), Room 4 (A.deeper (envOfC "total_of" (defScope s_total_of) s.heap.objs.size f cdv)) → DSs (cxOf CX0 P w K mg base n_total_of "total_of" (defScope s_total_of) f cdv A outer s H E).nox (defBody s_total_of) g_total_of :=
  fun f cdv A outer s H E hr => dss_cons (ds_set (i := 1) sc_total_of.nd rfl (.inl rfl) (de_mk1 (m := .al) MK (hr.mono (by decide)) rfl (da_cons (de_int) (da_nil)))) (dss_cons (ds_for PassesOwn.never rfl (di_list (dsrc (de_var (pv 0)))) (dg_name (pg_name (i := 2) sc_total_of.nd rfl (.inl rfl))) (dss_one (ds_set (i := 1) sc_total_of.nd rfl (.inl rfl) (de_bop B_add (hr.mono (by decide)) (de_var (pv 1)) (de_var (pv 2)))))) (dss_one (ds_ret (de_var (pv 1)))))
theorem df_total_of (T : Tops P w K mg base) (F : Stands K mg "total_of" s_total_of) (MK : Mkr P w K mg base 2) (B_add : Bop P w K mg base .Add 4 d_Rt_add) : Dfn P w K mg base "total_of" 5 ["ratios"] false d_total_of :=
  dfn (g := g_total_of) F sc_total_of (by decide) (fun _ _ _ _ _ _ us hl => match us, hl with | [_], _ => rfl) (bd_total_of T MK B_add)

/-! ### are_numbers -/
abbrev s_are_numbers : Stmt := topS 23
abbrev n_are_numbers : List Str := ["value", "wide", "number"]
theorem sc_are_numbers : FnScope n_are_numbers ["value", "wide"] (defScope s_are_numbers) := ⟨rfl, rfl, rfl, by decide +kernel, rfl, by decide +kernel, by decide +kernel⟩
noncomputable def g_are_numbers : SF := dRet (dAnd (dCall d_is_list (dCons (dVar 0) (dNil))) (dAnd (dBin gEq (dApp gLen (dCons (dVar 0) (dNil))) (dVar 1)) (dApp gAll (dCons (eL (lComp [2] (lSeq (dVar 0)) (tgName .al 2) (bTrue) (dCall d_is_number (dCons (dVar 2) (dNil))))) (dNil)))))
noncomputable def d_are_numbers : PF := defD 2 n_are_numbers false g_are_numbers
theorem bd_are_numbers (T : Tops P w K mg base) (G_is_number : Dfn P w K mg base "is_number" 2 ["value"] false d_is_number) (G_is_list : Dfn P w K mg base "is_list" 1 ["value"] false d_is_list) : ∀ (f : Addr) (cdv : Value) (A : Around) (outer : List PySem.Env) (s : Shared) (H : Hp) (E : XK), Room 2 (A.deeper (envOfC "are_numbers" (defScope s_are_numbers) s.heap.objs.size f cdv)) → DSs (cxOf CX0 P w K mg base n_are_numbers "are_numbers" (defScope s_are_numbers) f cdv A outer s H E).nox (defBody s_are_numbers) g_are_numbers :=
  fun f cdv A outer s H E hr => dss_one (ds_ret (de_and (m' := .al) (de_f G_is_list (hr.mono (by decide)) rfl (da_cons (de_var (pv 0)) (da_nil))) (de_and (m' := .al) (de_cmp (m := .al) (op_eqD hr.units) r2_eq (de_callB (m := .al) call_len_seq ra_len rfl T.z_len PySem.boot_len (da_cons (de_var (pv 0)) (da_nil))) (de_var (pv 1)) (nomark _)) (de_one (de_callB (m := .al) (cr_all rfl) ra_all rfl T.z_all (by decide +kernel) (da_cons (de_new (dn_comp (own := [("number", 2)]) (sf := false) rfl sc_are_numbers.nd (di_seq (de_var (pv 0))) (blkOk_by (N := n_are_numbers) (sc := defScope s_are_numbers) (by decide +kernel)) (fun _ _ _ _ _ => dg_name (pg_name (i := 2) sc_are_numbers.nd rfl (.inl rfl))) (fun _ _ _ _ _ => dts_nil) (fun _ _ _ _ _ => de_f G_is_number (hr.mono (by decide)) rfl (da_cons (de_var (pv 2)) (da_nil))) tgOk_name (by decide))) (da_nil)))))))
theorem df_are_numbers (T : Tops P w K mg base) (F : Stands K mg "are_numbers" s_are_numbers) (G_is_number : Dfn P w K mg base "is_number" 2 ["value"] false d_is_number) (G_is_list : Dfn P w K mg base "is_list" 1 ["value"] false d_is_list) : Dfn P w K mg base "are_numbers" 3 ["value", "wide"] false d_are_numbers :=
  dfn (g := g_are_numbers) F sc_are_numbers (by decide) (fun _ _ _ _ _ _ us hl => match us, hl with | [_, _], _ => rfl) (bd_are_numbers T G_is_number G_is_list)

/-! ### ratios_of -/
abbrev s_ratios_of : Stmt := topS 24
abbrev n_ratios_of : List Str := ["row", "number"]
theorem sc_ratios_of : FnScope n_ratios_of ["row"] (defScope s_ratios_of) := ⟨rfl, rfl, rfl, by decide +kernel, rfl, by decide +kernel, by decide +kernel⟩
noncomputable def g_ratios_of : SF := dRet (eL (lComp [1] (lSeq (dVarF 0)) (tgName .fr 1) (bTrue) (dRatF (dCall d_ratio_of (dCons (dVarF 1) (dNil))))))
noncomputable def d_ratios_of : PF := defD 1 n_ratios_of true g_ratios_of
theorem bd_ratios_of (T : Tops P w K mg base) (G_ratio_of : Dfn P w K mg base "ratio_of" 4 ["number"] false d_ratio_of) : ∀ (f : Addr) (cdv : Value) (A : Around) (outer : List PySem.Env) (s : Shared) (H : Hp) (E : XK), Room 4 (A.deeper (envOfC "ratios_of" (defScope s_ratios_of) s.heap.objs.size f cdv)) → DSs (cxOf CX0 P w K mg base n_ratios_of "ratios_of" (defScope s_ratios_of) f cdv A outer s H E).nox (defBody s_ratios_of) g_ratios_of :=
  fun f cdv A outer s H E hr => dss_one (ds_ret (de_new (dn_comp (own := [("number", 1)]) (sf := false) rfl sc_ratios_of.nd (di_seq (de_varF (pv 0))) (blkOk_by (N := n_ratios_of) (sc := defScope s_ratios_of) (by decide +kernel)) (fun _ _ _ _ _ => dg_name (pg_name (i := 1) sc_ratios_of.nd rfl (.inl rfl))) (fun _ _ _ _ _ => dts_nil) (fun _ _ _ _ _ => de_ratF (m := .fr) (de_f G_ratio_of (hr.mono (by decide)) rfl (da_cons (de_varF (pv 1)) (da_nil)))) tgOk_name (by decide))))
theorem df_ratios_of (T : Tops P w K mg base) (F : Stands K mg "ratios_of" s_ratios_of) (G_ratio_of : Dfn P w K mg base "ratio_of" 4 ["number"] false d_ratio_of) : Dfn P w K mg base "ratios_of" 5 ["row"] true d_ratios_of :=
  dfn (g := g_ratios_of) F sc_ratios_of (by decide) (fun _ _ _ _ _ _ us hl => match us, hl with | [_], _ => rfl) (bd_ratios_of T G_ratio_of)

/-! ### plain_row -/
abbrev s_plain_row : Stmt := topS 25
abbrev n_plain_row : List Str := ["row", "common", "number"]
theorem sc_plain_row : FnScope n_plain_row ["row"] (defScope s_plain_row) := ⟨rfl, rfl, rfl, by decide +kernel, rfl, by decide +kernel, by decide +kernel⟩
noncomputable def g_plain_row : SF := dSeq (dAsg (dK (.int 0)) (tgName .al 1)) (dSeq (dFor (lOf (dVar 0)) (tgName .al 2) (dIte (bOf (dBin gNe (dVar 2) (dK (.int 0)))) (dAsg (dCall d_common_part (dCons (dVar 1) (dCons (dVar 2) (dNil)))) (tgName .al 1)) (dNext))) (dRet (dIf (bOf (dBin gGt (dVar 1) (dK (.int 1)))) (eL (lComp [2] (lOf (dVar 0)) (tgName .al 2) (bTrue) (dBin gFdiv (dVar 2) (dVar 1)))) (dVar 0))))
noncomputable def d_plain_row : PF := defD 1 n_plain_row false g_plain_row
theorem bd_plain_row (T : Tops P w K mg base) (G_common_part : Dfn P w K mg base "common_part" 1 ["one", "other"] false d_common_part) : ∀ (f : Addr) (cdv : Value) (A : Around) (outer : List PySem.Env) (s : Shared) (H : Hp) (E : XK), Room 1 (A.deeper (envOfC "plain_row" (defScope s_plain_row) s.heap.objs.size f cdv)) → DSs (cxOf CX0 P w K mg base n_plain_row "plain_row" (defScope s_plain_row) f cdv A outer s H E).nox (defBody s_plain_row) g_plain_row :=
  fun f cdv A outer s H E hr => dss_cons (ds_set (i := 1) sc_plain_row.nd rfl (.inr rfl) (de_int)) (dss_cons (ds_for PassesOwn.never rfl (di_list (dsrc (de_var (pv 0)))) (dg_name (pg_name (i := 2) sc_plain_row.nd rfl (.inl rfl))) (dss_one (ds_if (dt_cmp (m := .al) (m' := .al) (op_neD hr.units) r2_ne (de_var (pv 2)) (de_int) (nomark _)) (dss_one (ds_set (i := 1) sc_plain_row.nd rfl (.inr rfl) (de_f G_common_part (hr.mono (by decide)) rfl (da_cons (de_var (pv 1)) (da_cons (de_var (pv 2)) (da_nil)))))) (dss_nil)))) (dss_one (ds_ret (de_if (dt_cmp (m := .al) (m' := .al) op_gt r2_rel (de_var (pv 1)) (de_int) (nomark _)) (de_new (dn_comp (own := [("number", 2)]) (sf := false) rfl sc_plain_row.nd (di_list (dsrc (de_var (pv 0)))) (blkOk_by (N := n_plain_row) (sc := defScope s_plain_row) (by decide +kernel)) (fun _ _ _ _ _ => dg_name (pg_name (i := 2) sc_plain_row.nd rfl (.inl rfl))) (fun _ _ _ _ _ => dts_nil) (fun _ _ _ _ _ => de_op (m := .al) op_fdivA r2_fdiv (de_var (pv 2)) (de_var (pv 1))) tgOk_name (by decide))) (de_var (pv 0))))))
theorem df_plain_row (T : Tops P w K mg base) (F : Stands K mg "plain_row" s_plain_row) (G_common_part : Dfn P w K mg base "common_part" 1 ["one", "other"] false d_common_part) : Dfn P w K mg base "plain_row" 2 ["row"] false d_plain_row :=
  dfn (g := g_plain_row) F sc_plain_row (by decide) (fun _ _ _ _ _ _ us hl => match us, hl with | [_], _ => rfl) (bd_plain_row T G_common_part)

/-! ### ints_of -/
abbrev s_ints_of : Stmt := topS 26
abbrev n_ints_of : List Str := ["rows", "row"]
theorem sc_ints_of : FnScope n_ints_of ["rows"] (defScope s_ints_of) := ⟨rfl, rfl, rfl, by decide +kernel, rfl, by decide +kernel, by decide +kernel⟩
noncomputable def g_ints_of : SF := dRet (eL (lComp [1] (lSeq (dVarF 0)) (tgName .fr 1) (bTrue) (dBin gIx (dCall d_wholes (dCons (dCall d_ratios_of (dCons (dVarF 1) (dNil))) (dNil))) (dK (.int 1)))))
noncomputable def d_ints_of : PF := defD 1 n_ints_of true g_ints_of
theorem bd_ints_of (T : Tops P w K mg base) (G_wholes : Dfn P w K mg base "wholes" 1 ["ratios"] false d_wholes) (G_ratios_of : Dfn P w K mg base "ratios_of" 5 ["row"] true d_ratios_of) : ∀ (f : Addr) (cdv : Value) (A : Around) (outer : List PySem.Env) (s : Shared) (H : Hp) (E : XK), Room 5 (A.deeper (envOfC "ints_of" (defScope s_ints_of) s.heap.objs.size f cdv)) → DSs (cxOf CX0 P w K mg base n_ints_of "ints_of" (defScope s_ints_of) f cdv A outer s H E).nox (defBody s_ints_of) g_ints_of :=
  fun f cdv A outer s H E hr => dss_one (ds_ret (de_new (dn_comp (own := [("row", 1)]) (sf := false) rfl sc_ints_of.nd (di_seq (de_varF (pv 0))) (blkOk_by (N := n_ints_of) (sc := defScope s_ints_of) (by decide +kernel)) (fun _ _ _ _ _ => dg_name (pg_name (i := 1) sc_ints_of.nd rfl (.inl rfl))) (fun _ _ _ _ _ => dts_nil) (fun _ _ _ _ _ => de_ix ix_seq r2_ix (de_f G_wholes (hr.mono (by decide)) rfl (da_cons (de_fF (m := .fr) G_ratios_of (hr.mono (by decide)) rfl (da_cons (de_varF (pv 1)) (da_nil))) (da_nil))) (de_int) (fun _ _ => rfl)) tgOk_name (by decide))))
theorem df_ints_of (T : Tops P w K mg base) (F : Stands K mg "ints_of" s_ints_of) (G_wholes : Dfn P w K mg base "wholes" 1 ["ratios"] false d_wholes) (G_ratios_of : Dfn P w K mg base "ratios_of" 5 ["row"] true d_ratios_of) : Dfn P w K mg base "ints_of" 6 ["rows"] true d_ints_of :=
  dfn (g := g_ints_of) F sc_ints_of (by decide) (fun _ _ _ _ _ _ us hl => match us, hl with | [_], _ => rfl) (bd_ints_of T G_wholes G_ratios_of)

/-! ### cleared -/
abbrev s_cleared : Stmt := topS 27
abbrev n_cleared : List Str := ["row", "head", "place", "near", "far"]
theorem sc_cleared : FnScope n_cleared ["row", "head", "place"] (defScope s_cleared) := ⟨rfl, rfl, rfl, by decide +kernel, rfl, by decide +kernel, by decide +kernel⟩
noncomputable def g_cleared : SF := dSeq (dIte (bOf (dBin gEq (dBin gIx (dVar 0) (dVar 2)) (dK (.int 0)))) (dRet (dVar 0)) (dNext)) (dRet (dCall d_plain_row (dCons (eL (lComp [3, 4] (lZip (lOf (dVar 0)) (lOf (dVar 1))) (tgTup .al [3, 4]) (bTrue) (dBin gSub (dBin gMul (dBin gIx (dVar 1) (dVar 2)) (dVar 3)) (dBin gMul (dBin gIx (dVar 0) (dVar 2)) (dVar 4))))) (dNil))))
noncomputable def d_cleared : PF := defD 3 n_cleared false g_cleared
theorem bd_cleared (T : Tops P w K mg base) (G_plain_row : Dfn P w K mg base "plain_row" 2 ["row"] false d_plain_row) : ∀ (f : Addr) (cdv : Value) (A : Around) (outer : List PySem.Env) (s : Shared) (H : Hp) (E : XK), Room 2 (A.deeper (envOfC "cleared" (defScope s_cleared) s.heap.objs.size f cdv)) → DSs (cxOf CX0 P w K mg base n_cleared "cleared" (defScope s_cleared) f cdv A outer s H E).nox (defBody s_cleared) g_cleared :=
  fun f cdv A outer s H E hr => dss_cons (ds_if (dt_cmp (m := .al) (m' := .al) (op_eqD hr.units) r2_eq (de_ix ix_seq r2_ix (de_var (pv 0)) (de_var (pv 2)) (fun _ _ => rfl)) (de_int) (nomark _)) (dss_one (ds_ret (de_var (pv 0)))) (dss_nil)) (dss_one (ds_ret (de_f G_plain_row (hr.mono (by decide)) rfl (da_cons (de_new (dn_comp (own := [("near", 3), ("far", 4)]) (sf := false) rfl sc_cleared.nd (di_zip rfl T.z_zip (dsrc (de_var (pv 0))) (dsrc (de_var (pv 1)))) (blkOk_by (N := n_cleared) (sc := defScope s_cleared) (by decide +kernel)) (fun _ _ _ _ _ => dg_tup rfl (dgs_cons (pg_name (i := 3) sc_cleared.nd rfl (.inl rfl)) (dgs_cons (pg_name (i := 4) sc_cleared.nd rfl (.inl rfl)) (dgs_nil)))) (fun _ _ _ _ _ => dts_nil) (fun _ _ _ _ _ => de_op (m := .al) op_sub r2_sub (de_op op_mulA r2_mul (de_ix ix_seq r2_ix (de_var (pv 1)) (de_var (pv 2)) (fun _ _ => rfl)) (de_var (pv 3))) (de_op op_mulA r2_mul (de_ix ix_seq r2_ix (de_var (pv 0)) (de_var (pv 2)) (fun _ _ => rfl)) (de_var (pv 4)))) tgOk_tup (by decide))) (da_nil)))))
theorem df_cleared (T : Tops P w K mg base) (F : Stands K mg "cleared" s_cleared) (G_plain_row : Dfn P w K mg base "plain_row" 2 ["row"] false d_plain_row) : Dfn P w K mg base "cleared" 3 ["row", "head", "place"] false d_cleared :=
  dfn (g := g_cleared) F sc_cleared (by decide) (fun _ _ _ _ _ _ us hl => match us, hl with | [_, _, _], _ => rfl) (bd_cleared T G_plain_row)

/-! ### first_at -/
abbrev s_first_at : Stmt := topS 28
abbrev n_first_at : List Str := ["rows", "place", "at", "row"]
theorem sc_first_at : FnScope n_first_at ["rows", "place"] (defScope s_first_at) := ⟨rfl, rfl, rfl, by decide +kernel, rfl, by decide +kernel, by decide +kernel⟩
noncomputable def g_first_at : SF := dSeq (dFor (lEnum (lOf (dVar 0))) (tgTup .al [2, 3]) (dIte (bOf (dBin gNe (dBin gIx (dVar 3) (dVar 1)) (dK (.int 0)))) (dRet (dVar 2)) (dNext))) (dRet (dNeg (dK (.int 1))))
noncomputable def d_first_at : PF := defD 2 n_first_at false g_first_at
theorem bd_first_at (T : Tops P w K mg base)  : ∀ (f : Addr) (cdv : Value) (A : Around) (outer : List PySem.Env) (s : Shared) (H : Hp) (E : XK), Room 0 (A.deeper (envOfC "first_at" (defScope s_first_at) s.heap.objs.size f cdv)) → DSs (cxOf CX0 P w K mg base n_first_at "first_at" (defScope s_first_at) f cdv A outer s H E).nox (defBody s_first_at) g_first_at :=
  fun f cdv A outer s H E hr => dss_cons (ds_for PassesOwn.never rfl (di_enum rfl T.z_enumerate (dsrc (de_var (pv 0)))) (dg_tup rfl (dgs_cons (pg_name (i := 2) sc_first_at.nd rfl (.inl rfl)) (dgs_cons (pg_name (i := 3) sc_first_at.nd rfl (.inl rfl)) (dgs_nil)))) (dss_one (ds_if (dt_cmp (m := .al) (m' := .al) (op_neD hr.units) r2_ne (de_ix ix_seq r2_ix (de_var (pv 3)) (de_var (pv 1)) (fun _ _ => rfl)) (de_int) (nomark _)) (dss_one (ds_ret (de_var (pv 2)))) (dss_nil)))) (dss_one (ds_ret (de_neg (m := .al) (de_int))))
theorem df_first_at (T : Tops P w K mg base) (F : Stands K mg "first_at" s_first_at)  : Dfn P w K mg base "first_at" 1 ["rows", "place"] false d_first_at :=
  dfn (g := g_first_at) F sc_first_at (by decide) (fun _ _ _ _ _ _ us hl => match us, hl with | [_, _], _ => rfl) (bd_first_at T )

/-! ### int_rank -/
abbrev s_int_rank : Stmt := topS 29
abbrev n_int_rank : List Str := ["rows", "place", "left", "many", "at", "head", "row"]
theorem sc_int_rank : FnScope n_int_rank ["rows"] (defScope s_int_rank) := ⟨rfl, rfl, rfl, by decide +kernel, rfl, by decide +kernel, by decide +kernel⟩
noncomputable def g_int_rank : SF := dSeq (dPar 2 3 (dVar 0) (dK (.int 0))) (dSeq (dFor (lRange1 (dCons (dIf (bOf (dBin gNe (dVar 0) (dLst (dNil)))) (dApp gLen (dCons (dBin gIx (dVar 0) (dK (.int 0))) (dNil))) (dK (.int 0))) (dNil))) (tgName .al 1) (dSeq (dAsg (dCall d_first_at (dCons (dVar 2) (dCons (dVar 1) (dNil)))) (tgName .al 4)) (dIte (bOf (dBin gGe (dVar 4) (dK (.int 0)))) (dSeq (dAsg (dBin gIx (dVar 2) (dVar 4)) (tgName .al 5)) (dSeq (dAsg (eL (lComp [6] (lCat (lSl (lOf (dVar 2)) (oNone) (oSome (dVar 4))) (lSl (lOf (dVar 2)) (oSome (dBin gAdd (dVar 4) (dK (.int 1)))) (oNone))) (tgName .al 6) (bTrue) (dCall d_cleared (dCons (dVar 6) (dCons (dVar 5) (dCons (dVar 1) (dNil))))))) (tgName .al 2)) (dAsg (dBin gAdd (dVar 3) (dK (.int 1))) (tgName .al 3)))) (dNext)))) (dRet (dVar 3)))
noncomputable def d_int_rank : PF := defD 1 n_int_rank false g_int_rank
theorem bd_int_rank (T : Tops P w K mg base) (G_first_at : Dfn P w K mg base "first_at" 1 ["rows", "place"] false d_first_at) (G_cleared : Dfn P w K mg base "cleared" 3 ["row", "head", "place"] false d_cleared) : ∀ (f : Addr) (cdv : Value) (A : Around) (outer : List PySem.Env) (s : Shared) (H : Hp) (E : XK), Room 3 (A.deeper (envOfC "int_rank" (defScope s_int_rank) s.heap.objs.size f cdv)) → DSs (cxOf CX0 P w K mg base n_int_rank "int_rank" (defScope s_int_rank) f cdv A outer s H E).nox (defBody s_int_rank) g_int_rank :=
  fun f cdv A outer s H E hr => dss_cons (ds_par rfl sc_int_rank.nd rfl rfl (by decide) rfl rfl (de_var (pv 0)) (de_int) rfl) (dss_cons (ds_for PassesOwn.never rfl (di_range1 (m' := .al) rfl T.z_range (da_cons (de_if (dt_cmp (m := .al) (m' := .al) (op_neD hr.units) r2_ne (de_var (pv 0)) (de_lst (da_nil)) (nomark _)) (de_callB (m := .al) call_len_seq ra_len rfl T.z_len PySem.boot_len (da_cons (de_ix ix_seq r2_ix (de_var (pv 0)) (de_int) (fun _ _ => rfl)) (da_nil))) (de_int)) (da_nil))) (dg_name (pg_name (i := 1) sc_int_rank.nd rfl (.inr rfl))) (dss_cons (ds_set (i := 4) sc_int_rank.nd rfl (.inl rfl) (de_f G_first_at (hr.mono (by decide)) rfl (da_cons (de_var (pv 2)) (da_cons (de_var (pv 1)) (da_nil))))) (dss_one (ds_if (dt_cmp (m := .al) (m' := .al) op_ge r2_rel (de_var (pv 4)) (de_int) (nomark _)) (dss_cons (ds_set (i := 5) sc_int_rank.nd rfl (.inr rfl) (de_ix ix_seq r2_ix (de_var (pv 2)) (de_var (pv 4)) (fun _ _ => rfl))) (dss_cons (ds_setC (i := 2) (own := [("row", 6)]) (sf := false) rfl sc_int_rank.nd rfl rfl (sw_true rfl rfl rfl (by decide +kernel)) (di_list (DSrc.loose (dsrc_new (dn_cat (sf := false) (sg := false) (DSrc.loose (dsrc_new (dn_slice (sf := false) (dsrc (de_var (pv 2))) (do_none) (do_some (m := .al) (de_var (pv 4)))))) (DSrc.loose (dsrc_new (dn_slice (sf := false) (dsrc (de_var (pv 2))) (do_some (m := .al) (de_op op_addA r2_add (de_var (pv 4)) (de_int))) (do_none)))))))) (blkOk_by (N := n_int_rank) (sc := defScope s_int_rank) (by decide +kernel)) (fun _ _ _ _ _ => dg_name (pg_name (i := 6) sc_int_rank.nd rfl (.inl rfl))) (fun _ _ _ _ _ => dts_nil) (fun _ _ _ _ _ => de_f G_cleared (hr.mono (by decide)) rfl (da_cons (de_var (pv 6)) (da_cons (de_var (pv 5)) (da_cons (de_var (pv 1)) (da_nil))))) tgOk_name (by decide)) (dss_one (ds_set (i := 3) sc_int_rank.nd rfl (.inl rfl) (de_op op_addA r2_add (de_var (pv 3)) (de_int)))))) (dss_nil))))) (dss_one (ds_ret (de_var (pv 3)))))
theorem df_int_rank (T : Tops P w K mg base) (F : Stands K mg "int_rank" s_int_rank) (G_first_at : Dfn P w K mg base "first_at" 1 ["rows", "place"] false d_first_at) (G_cleared : Dfn P w K mg base "cleared" 3 ["row", "head", "place"] false d_cleared) : Dfn P w K mg base "int_rank" 4 ["rows"] false d_int_rank :=
  dfn (g := g_int_rank) F sc_int_rank (by decide) (fun _ _ _ _ _ _ us hl => match us, hl with | [_], _ => rfl) (bd_int_rank T G_first_at G_cleared)

/-! ### are_lists -/
abbrev s_are_lists : Stmt := topS 33
abbrev n_are_lists : List Str := ["value", "wide", "row"]
theorem sc_are_lists : FnScope n_are_lists ["value"] (defScope s_are_lists) := ⟨rfl, rfl, rfl, by decide +kernel, rfl, by decide +kernel, by decide +kernel⟩
noncomputable def g_are_lists : SF := dSeq (dIte (bOr (bNot (bOf (dCall d_is_list (dCons (dVar 0) (dNil))))) (bOr (bNot (bOf (dChain gLe gLe (dK (.int 1)) (dApp gLen (dCons (dVar 0) (dNil))) (dK (.int c_MOST_LISTS))))) (bNot (bOf (dCall d_is_list (dCons (dBin gIx (dVar 0) (dK (.int 0))) (dNil))))))) (dRet (dK (.bl false))) (dNext)) (dSeq (dAsg (dApp gLen (dCons (dBin gIx (dVar 0) (dK (.int 0))) (dNil))) (tgName .al 1)) (dSeq (dIte (bOr (bNot (bOf (dChain gLe gLe (dK (.int 1)) (dVar 1) (dK (.int c_MOST_LONG))))) (bNot (bOf (dApp gAll (dCons (eL (lComp [2] (lSeq (dVar 0)) (tgName .al 2) (bTrue) (dCall d_are_numbers (dCons (dVar 2) (dCons (dVar 1) (dNil)))))) (dNil)))))) (dRet (dK (.bl false))) (dNext)) (dRet (dBin gGt (dCall d_int_rank (dCons (dCall d_ints_of (dCons (dVar 0) (dNil))) (dNil))) (dK (.int 0))))))
noncomputable def d_are_lists : PF := defD 1 n_are_lists false g_are_lists
theorem bd_are_lists (T : Tops P w K mg base) (G_is_list : Dfn P w K mg base "is_list" 1 ["value"] false d_is_list) (G_are_numbers : Dfn P w K mg base "are_numbers" 3 ["value", "wide"] false d_are_numbers) (G_int_rank : Dfn P w K mg base "int_rank" 4 ["rows"] false d_int_rank) (G_ints_of : Dfn P w K mg base "ints_of" 6 ["rows"] true d_ints_of) : ∀ (f : Addr) (cdv : Value) (A : Around) (outer : List PySem.Env) (s : Shared) (H : Hp) (E : XK), Room 6 (A.deeper (envOfC "are_lists" (defScope s_are_lists) s.heap.objs.size f cdv)) → DSs (cxOf CX0 P w K mg base n_are_lists "are_lists" (defScope s_are_lists) f cdv A outer s H E).nox (defBody s_are_lists) g_are_lists :=
  fun f cdv A outer s H E hr => dss_cons (ds_if (dt_w (dw_or (dt_not (dt_val (m := .al) (de_f G_is_list (hr.mono (by decide)) rfl (da_cons (de_var (pv 0)) (da_nil))))) (dw_or (dt_not (dt_chain (m' := .al) (m := .al) (m1 := .al) op_le op_le r2_rel r2_rel (de_int) (de_callB (m := .al) call_len_seq ra_len rfl T.z_len PySem.boot_len (da_cons (de_var (pv 0)) (da_nil))) (de_K (v := .int c_MOST_LISTS) (pe_glob rfl T.c_MOST_LISTS.choose_spec ⟨_, rfl⟩) (fun _ _ _ => .int _)))) (dw_or1 (dt_not (dt_val (m := .al) (de_f G_is_list (hr.mono (by decide)) rfl (da_cons (de_ix ix_seq r2_ix (de_var (pv 0)) (de_int) (fun _ _ => rfl)) (da_nil))))))))) (dss_one (ds_ret (de_bl))) (dss_nil)) (dss_cons (ds_set (i := 1) sc_are_lists.nd rfl (.inr rfl) (de_callB (m := .al) call_len_seq ra_len rfl T.z_len PySem.boot_len (da_cons (de_ix ix_seq r2_ix (de_var (pv 0)) (de_int) (fun _ _ => rfl)) (da_nil)))) (dss_cons (ds_if (dt_w (dw_or (dt_not (dt_chain (m' := .al) (m := .al) (m1 := .al) op_le op_le r2_rel r2_rel (de_int) (de_var (pv 1)) (de_K (v := .int c_MOST_LONG) (pe_glob rfl T.c_MOST_LONG.choose_spec ⟨_, rfl⟩) (fun _ _ _ => .int _)))) (dw_or1 (dt_not (dt_val (m := .al) (de_callB (m := .al) (cr_all rfl) ra_all rfl T.z_all (by decide +kernel) (da_cons (de_new (dn_comp (own := [("row", 2)]) (sf := false) rfl sc_are_lists.nd (di_seq (de_var (pv 0))) (blkOk_by (N := n_are_lists) (sc := defScope s_are_lists) (by decide +kernel)) (fun _ _ _ _ _ => dg_name (pg_name (i := 2) sc_are_lists.nd rfl (.inl rfl))) (fun _ _ _ _ _ => dts_nil) (fun _ _ _ _ _ => de_f G_are_numbers (hr.mono (by decide)) rfl (da_cons (de_var (pv 2)) (da_cons (de_var (pv 1)) (da_nil)))) tgOk_name (by decide))) (da_nil)))))))) (dss_one (ds_ret (de_bl))) (dss_nil)) (dss_one (ds_ret (de_cmp (m := .al) op_gt r2_rel (de_f G_int_rank (hr.mono (by decide)) rfl (da_cons (de_fF (m := .al) G_ints_of (hr.mono (by decide)) rfl (da_cons (de_var (pv 0)) (da_nil))) (da_nil))) (de_int) (nomark _))))))
theorem df_are_lists (T : Tops P w K mg base) (F : Stands K mg "are_lists" s_are_lists) (G_is_list : Dfn P w K mg base "is_list" 1 ["value"] false d_is_list) (G_are_numbers : Dfn P w K mg base "are_numbers" 3 ["value", "wide"] false d_are_numbers) (G_int_rank : Dfn P w K mg base "int_rank" 4 ["rows"] false d_int_rank) (G_ints_of : Dfn P w K mg base "ints_of" 6 ["rows"] true d_ints_of) : Dfn P w K mg base "are_lists" 7 ["value"] false d_are_lists :=
  dfn (g := g_are_lists) F sc_are_lists (by decide) (fun _ _ _ _ _ _ us hl => match us, hl with | [_], _ => rfl) (bd_are_lists T G_is_list G_are_numbers G_int_rank G_ints_of)

/-! ### want_lists -/
abbrev s_want_lists : Stmt := topS 34
abbrev n_want_lists : List Str := ["value"]
theorem sc_want_lists : FnScope n_want_lists ["value"] (defScope s_want_lists) := ⟨rfl, rfl, rfl, by decide +kernel, rfl, by decide +kernel, by decide +kernel⟩
noncomputable def g_want_lists : SF := dSeq (dIte (bNot (bOf (dRatF (dCall d_are_lists (dCons (dVarF 0) (dNil)))))) (dFail) (dNext)) (dRet (dCall d_ints_of (dCons (dVarF 0) (dNil))))
noncomputable def d_want_lists : PF := defD 1 n_want_lists true g_want_lists
theorem bd_want_lists (T : Tops P w K mg base) (G_are_lists : Dfn P w K mg base "are_lists" 7 ["value"] false d_are_lists) (G_ints_of : Dfn P w K mg base "ints_of" 6 ["rows"] true d_ints_of) : ∀ (f : Addr) (cdv : Value) (A : Around) (outer : List PySem.Env) (s : Shared) (H : Hp) (E : XK), Room 7 (A.deeper (envOfC "want_lists" (defScope s_want_lists) s.heap.objs.size f cdv)) → DSs (cxOf CX0 P w K mg base n_want_lists "want_lists" (defScope s_want_lists) f cdv A outer s H E).nox (defBody s_want_lists) g_want_lists :=
  fun f cdv A outer s H E hr => dss_cons (ds_if (dt_not (dt_val (m := .al) (de_ratF (m := .fr) (de_f G_are_lists (hr.mono (by decide)) rfl (da_cons (de_varF (pv 0)) (da_nil)))))) (dss_one (ds_fail)) (dss_nil)) (dss_one (ds_ret (de_fF (m := .fr) G_ints_of (hr.mono (by decide)) rfl (da_cons (de_varF (pv 0)) (da_nil)))))
theorem df_want_lists (T : Tops P w K mg base) (F : Stands K mg "want_lists" s_want_lists) (G_are_lists : Dfn P w K mg base "are_lists" 7 ["value"] false d_are_lists) (G_ints_of : Dfn P w K mg base "ints_of" 6 ["rows"] true d_ints_of) : Dfn P w K mg base "want_lists" 8 ["value"] true d_want_lists :=
  dfn (g := g_want_lists) F sc_want_lists (by decide) (fun _ _ _ _ _ _ us hl => match us, hl with | [_], _ => rfl) (bd_want_lists T G_are_lists G_ints_of)

/-! ### are_weights -/
abbrev s_are_weights : Stmt := topS 35
abbrev n_are_weights : List Str := ["many", "value", "number"]
theorem sc_are_weights : FnScope n_are_weights ["many", "value"] (defScope s_are_weights) := ⟨rfl, rfl, rfl, by decide +kernel, rfl, by decide +kernel, by decide +kernel⟩
noncomputable def g_are_weights : SF := dRet (dAnd (dCall d_are_numbers (dCons (dVar 1) (dCons (dVar 0) (dNil)))) (dApp gAll (dCons (eL (lComp [2] (lOf (dCall d_ratios_of (dCons (dVar 1) (dNil)))) (tgName .al 2) (bTrue) (dBin gGe (dProp d_Rt_sign (dVar 2)) (dK (.int 0))))) (dNil))))
noncomputable def d_are_weights : PF := defD 2 n_are_weights false g_are_weights
theorem bd_are_weights (T : Tops P w K mg base) (G_ratios_of : Dfn P w K mg base "ratios_of" 5 ["row"] true d_ratios_of) (P_sign : Prp P w K mg base "sign" 1 d_Rt_sign) (G_are_numbers : Dfn P w K mg base "are_numbers" 3 ["value", "wide"] false d_are_numbers) : ∀ (f : Addr) (cdv : Value) (A : Around) (outer : List PySem.Env) (s : Shared) (H : Hp) (E : XK), Room 5 (A.deeper (envOfC "are_weights" (defScope s_are_weights) s.heap.objs.size f cdv)) → DSs (cxOf CX0 P w K mg base n_are_weights "are_weights" (defScope s_are_weights) f cdv A outer s H E).nox (defBody s_are_weights) g_are_weights :=
  fun f cdv A outer s H E hr => dss_one (ds_ret (de_and (m' := .al) (de_f G_are_numbers (hr.mono (by decide)) rfl (da_cons (de_var (pv 1)) (da_cons (de_var (pv 0)) (da_nil)))) (de_one (de_callB (m := .al) (cr_all rfl) ra_all rfl T.z_all (by decide +kernel) (da_cons (de_new (dn_comp (own := [("number", 2)]) (sf := false) rfl sc_are_weights.nd (di_list (dsrc (de_fF (m := .al) G_ratios_of (hr.mono (by decide)) rfl (da_cons (de_var (pv 1)) (da_nil))))) (blkOk_by (N := n_are_weights) (sc := defScope s_are_weights) (by decide +kernel)) (fun _ _ _ _ _ => dg_name (pg_name (i := 2) sc_are_weights.nd rfl (.inl rfl))) (fun _ _ _ _ _ => dts_nil) (fun _ _ _ _ _ => de_cmp (m := .al) op_ge r2_rel (de_prop P_sign T.R (hr.mono (by decide)) (de_var (pv 2))) (de_int) (nomark _)) tgOk_name (by decide))) (da_nil))))))
theorem df_are_weights (T : Tops P w K mg base) (F : Stands K mg "are_weights" s_are_weights) (G_ratios_of : Dfn P w K mg base "ratios_of" 5 ["row"] true d_ratios_of) (P_sign : Prp P w K mg base "sign" 1 d_Rt_sign) (G_are_numbers : Dfn P w K mg base "are_numbers" 3 ["value", "wide"] false d_are_numbers) : Dfn P w K mg base "are_weights" 6 ["many", "value"] false d_are_weights :=
  dfn (g := g_are_weights) F sc_are_weights (by decide) (fun _ _ _ _ _ _ us hl => match us, hl with | [_, _], _ => rfl) (bd_are_weights T G_ratios_of P_sign G_are_numbers)

/-! ### want_weights -/
abbrev s_want_weights : Stmt := topS 36
abbrev n_want_weights : List Str := ["many", "value"]
theorem sc_want_weights : FnScope n_want_weights ["many", "value"] (defScope s_want_weights) := ⟨rfl, rfl, rfl, by decide +kernel, rfl, by decide +kernel, by decide +kernel⟩
noncomputable def g_want_weights : SF := dSeq (dIte (bNot (bOf (dRatF (dCall d_are_weights (dCons (dVarF 0) (dCons (dVarF 1) (dNil))))))) (dFail) (dNext)) (dRet (dCall d_ratios_of (dCons (dVarF 1) (dNil))))
noncomputable def d_want_weights : PF := defD 2 n_want_weights true g_want_weights
theorem bd_want_weights (T : Tops P w K mg base) (G_are_weights : Dfn P w K mg base "are_weights" 6 ["many", "value"] false d_are_weights) (G_ratios_of : Dfn P w K mg base "ratios_of" 5 ["row"] true d_ratios_of) : ∀ (f : Addr) (cdv : Value) (A : Around) (outer : List PySem.Env) (s : Shared) (H : Hp) (E : XK), Room 6 (A.deeper (envOfC "want_weights" (defScope s_want_weights) s.heap.objs.size f cdv)) → DSs (cxOf CX0 P w K mg base n_want_weights "want_weights" (defScope s_want_weights) f cdv A outer s H E).nox (defBody s_want_weights) g_want_weights :=
  fun f cdv A outer s H E hr => dss_cons (ds_if (dt_not (dt_val (m := .al) (de_ratF (m := .fr) (de_f G_are_weights (hr.mono (by decide)) rfl (da_cons (de_varF (pv 0)) (da_cons (de_varF (pv 1)) (da_nil))))))) (dss_one (ds_fail)) (dss_nil)) (dss_one (ds_ret (de_fF (m := .fr) G_ratios_of (hr.mono (by decide)) rfl (da_cons (de_varF (pv 1)) (da_nil)))))
theorem df_want_weights (T : Tops P w K mg base) (F : Stands K mg "want_weights" s_want_weights) (G_are_weights : Dfn P w K mg base "are_weights" 6 ["many", "value"] false d_are_weights) (G_ratios_of : Dfn P w K mg base "ratios_of" 5 ["row"] true d_ratios_of) : Dfn P w K mg base "want_weights" 7 ["many", "value"] true d_want_weights :=
  dfn (g := g_want_weights) F sc_want_weights (by decide) (fun _ _ _ _ _ _ us hl => match us, hl with | [_, _], _ => rfl) (bd_want_weights T G_are_weights G_ratios_of)

/-! ### is_lot_of -/
abbrev s_is_lot_of : Stmt := topS 37
abbrev n_is_lot_of : List Str := ["many", "value", "near", "far", "at"]
theorem sc_is_lot_of : FnScope n_is_lot_of ["many", "value"] (defScope s_is_lot_of) := ⟨rfl, rfl, rfl, by decide +kernel, rfl, by decide +kernel, by decide +kernel⟩
noncomputable def g_is_lot_of : SF := dSeq (dIte (bOr (bNot (bOf (dCall d_is_list (dCons (dVar 1) (dNil))))) (bNot (bOf (dApp gAll (dCons (eL (lComp [4] (lSeq (dVar 1)) (tgName .al 4) (bTrue) (dAnd (dCall d_is_count (dCons (dVar 4) (dNil))) (dBin gLt (dVar 4) (dVar 0))))) (dNil)))))) (dRet (dK (.bl false))) (dNext)) (dRet (dApp gAll (dCons (eL (lComp [2, 3] (lZipS (dVar 1) (dSlG gSlA (dVar 1) (oSome (dK (.int 1))) (oNone))) (tgTup .al [2, 3]) (bTrue) (dBin gLt (dVar 2) (dVar 3)))) (dNil))))
noncomputable def d_is_lot_of : PF := defD 2 n_is_lot_of false g_is_lot_of
theorem bd_is_lot_of (T : Tops P w K mg base) (G_is_count : Dfn P w K mg base "is_count" 2 ["value"] false d_is_count) (G_is_list : Dfn P w K mg base "is_list" 1 ["value"] false d_is_list) : ∀ (f : Addr) (cdv : Value) (A : Around) (outer : List PySem.Env) (s : Shared) (H : Hp) (E : XK), Room 2 (A.deeper (envOfC "is_lot_of" (defScope s_is_lot_of) s.heap.objs.size f cdv)) → DSs (cxOf CX0 P w K mg base n_is_lot_of "is_lot_of" (defScope s_is_lot_of) f cdv A outer s H E).nox (defBody s_is_lot_of) g_is_lot_of :=
  fun f cdv A outer s H E hr => dss_cons (ds_if (dt_w (dw_or (dt_not (dt_val (m := .al) (de_f G_is_list (hr.mono (by decide)) rfl (da_cons (de_var (pv 1)) (da_nil))))) (dw_or1 (dt_not (dt_val (m := .al) (de_callB (m := .al) (cr_all rfl) ra_all rfl T.z_all (by decide +kernel) (da_cons (de_new (dn_comp (own := [("at", 4)]) (sf := false) rfl sc_is_lot_of.nd (di_seq (de_var (pv 1))) (blkOk_by (N := n_is_lot_of) (sc := defScope s_is_lot_of) (by decide +kernel)) (fun _ _ _ _ _ => dg_name (pg_name (i := 4) sc_is_lot_of.nd rfl (.inl rfl))) (fun _ _ _ _ _ => dts_nil) (fun _ _ _ _ _ => de_and (m' := .al) (de_f G_is_count (hr.mono (by decide)) rfl (da_cons (de_var (pv 4)) (da_nil))) (de_one (de_cmp (m := .al) op_lt r2_rel (de_var (pv 4)) (de_var (pv 0)) (nomark _)))) tgOk_name (by decide))) (da_nil)))))))) (dss_one (ds_ret (de_bl))) (dss_nil)) (dss_one (ds_ret (de_callB (m := .al) (cr_all rfl) ra_all rfl T.z_all (by decide +kernel) (da_cons (de_new (dn_comp (own := [("near", 2), ("far", 3)]) (sf := false) rfl sc_is_lot_of.nd (di_zipS rfl T.z_zip (de_var (pv 1)) (de_slice sl_any sl_ok_any (de_var (pv 1)) (do_some (m := .al) (de_int)) (do_none))) (blkOk_by (N := n_is_lot_of) (sc := defScope s_is_lot_of) (by decide +kernel)) (fun _ _ _ _ _ => dg_tup rfl (dgs_cons (pg_name (i := 2) sc_is_lot_of.nd rfl (.inl rfl)) (dgs_cons (pg_name (i := 3) sc_is_lot_of.nd rfl (.inl rfl)) (dgs_nil)))) (fun _ _ _ _ _ => dts_nil) (fun _ _ _ _ _ => de_cmp (m := .al) op_lt r2_rel (de_var (pv 2)) (de_var (pv 3)) (nomark _)) tgOk_tup (by decide))) (da_nil)))))
theorem df_is_lot_of (T : Tops P w K mg base) (F : Stands K mg "is_lot_of" s_is_lot_of) (G_is_count : Dfn P w K mg base "is_count" 2 ["value"] false d_is_count) (G_is_list : Dfn P w K mg base "is_list" 1 ["value"] false d_is_list) : Dfn P w K mg base "is_lot_of" 3 ["many", "value"] false d_is_lot_of :=
  dfn (g := g_is_lot_of) F sc_is_lot_of (by decide) (fun _ _ _ _ _ _ us hl => match us, hl with | [_, _], _ => rfl) (bd_is_lot_of T G_is_count G_is_list)

/-! ### want_lot -/
abbrev s_want_lot : Stmt := topS 38
abbrev n_want_lot : List Str := ["many", "value"]
theorem sc_want_lot : FnScope n_want_lot ["many", "value"] (defScope s_want_lot) := ⟨rfl, rfl, rfl, by decide +kernel, rfl, by decide +kernel, by decide +kernel⟩
noncomputable def g_want_lot : SF := dSeq (dIte (bNot (bOf (dCall d_is_lot_of (dCons (dVar 0) (dCons (dVar 1) (dNil)))))) (dFail) (dNext)) (dRet (eL (lList (dVar 1))))
noncomputable def d_want_lot : PF := defD 2 n_want_lot false g_want_lot
theorem bd_want_lot (T : Tops P w K mg base) (G_is_lot_of : Dfn P w K mg base "is_lot_of" 3 ["many", "value"] false d_is_lot_of) : ∀ (f : Addr) (cdv : Value) (A : Around) (outer : List PySem.Env) (s : Shared) (H : Hp) (E : XK), Room 3 (A.deeper (envOfC "want_lot" (defScope s_want_lot) s.heap.objs.size f cdv)) → DSs (cxOf CX0 P w K mg base n_want_lot "want_lot" (defScope s_want_lot) f cdv A outer s H E).nox (defBody s_want_lot) g_want_lot :=
  fun f cdv A outer s H E hr => dss_cons (ds_if (dt_not (dt_val (m := .al) (de_f G_is_lot_of (hr.mono (by decide)) rfl (da_cons (de_var (pv 0)) (da_cons (de_var (pv 1)) (da_nil)))))) (dss_one (ds_fail)) (dss_nil)) (dss_one (ds_ret (de_new (dn_list rfl T.z_list boot_list (de_var (pv 1))))))
theorem df_want_lot (T : Tops P w K mg base) (F : Stands K mg "want_lot" s_want_lot) (G_is_lot_of : Dfn P w K mg base "is_lot_of" 3 ["many", "value"] false d_is_lot_of) : Dfn P w K mg base "want_lot" 4 ["many", "value"] false d_want_lot :=
  dfn (g := g_want_lot) F sc_want_lot (by decide) (fun _ _ _ _ _ _ us hl => match us, hl with | [_, _], _ => rfl) (bd_want_lot T G_is_lot_of)

/-! ### lots_of -/
abbrev s_lots_of : Stmt := topS 39
abbrev n_lots_of : List Str := ["many", "found", "at", "lot"]
theorem sc_lots_of : FnScope n_lots_of ["many"] (defScope s_lots_of) := ⟨rfl, rfl, rfl, by decide +kernel, rfl, by decide +kernel, by decide +kernel⟩
noncomputable def g_lots_of : SF := dSeq (dOwn (lLst (dCons (dLst (dNil)) (dNil))) 1) (dSeq (dFor (lRange1 (dCons (dVar 0) (dNil))) (tgName .al 2) (dExtend 1 (lComp [3] (lOwn 1) (tgName .al 3) (bTrue) (dBin gAdd (dVar 3) (dLst (dCons (dVar 2) (dNil))))))) (fun ρ p => (dRet (dVar 1)) (rel 1 ρ) p))
noncomputable def d_lots_of : PF := defD 1 n_lots_of false g_lots_of
theorem bd_lots_of (T : Tops P w K mg base)  : ∀ (f : Addr) (cdv : Value) (A : Around) (outer : List PySem.Env) (s : Shared) (H : Hp) (E : XK), Room 0 (A.deeper (envOfC "lots_of" (defScope s_lots_of) s.heap.objs.size f cdv)) → DSs (cxOf CX0 P w K mg base n_lots_of "lots_of" (defScope s_lots_of) f cdv A outer s H E).nox (defBody s_lots_of) g_lots_of :=
  fun f cdv A outer s H E hr => dss_cons (ds_own (i := 1) sc_lots_of.nd rfl (.inl rfl) (dn_lst (da_cons (de_lst (da_nil)) (da_nil)))) (dss_cons (ds_for PassesOwn.never rfl (di_range1 (m' := .al) rfl T.z_range (da_cons (de_var (pv 0)) (da_nil))) (dg_name (pg_name (i := 2) sc_lots_of.nd rfl (.inr rfl))) (dss_one (ds_extend (sf := false) (pv 1) (DSrc.loose (dsrc_new (dn_comp (own := [("lot", 3)]) (sf := false) rfl sc_lots_of.nd (di_list (dsrc_own (pv 1))) (blkOk_by (N := n_lots_of) (sc := defScope s_lots_of) (by decide +kernel)) (fun _ _ _ _ _ => dg_name (pg_name (i := 3) sc_lots_of.nd rfl (.inl rfl))) (fun _ _ _ _ _ => dts_nil) (fun _ _ _ _ _ => de_op op_addA r2_add (de_var (pv 3)) (de_lst (da_cons (de_var (pv 2)) (da_nil)))) tgOk_name (by decide))))))) (dss_rel 1 (dss_one (ds_ret (de_var (pv 1))))))
theorem df_lots_of (T : Tops P w K mg base) (F : Stands K mg "lots_of" s_lots_of)  : Dfn P w K mg base "lots_of" 1 ["many"] false d_lots_of :=
  dfn (g := g_lots_of) F sc_lots_of (by decide) (fun _ _ _ _ _ _ us hl => match us, hl with | [_], _ => rfl) (bd_lots_of T )

/-! ### rank_in -/
abbrev s_rank_in : Stmt := topS 40
abbrev n_rank_in : List Str := ["rows", "lot", "at"]
theorem sc_rank_in : FnScope n_rank_in ["rows", "lot"] (defScope s_rank_in) := ⟨rfl, rfl, rfl, by decide +kernel, rfl, by decide +kernel, by decide +kernel⟩
noncomputable def g_rank_in : SF := dRet (dCall d_int_rank (dCons (eL (lComp [2] (lOf (dVar 1)) (tgName .al 2) (bTrue) (dBin gIx (dVar 0) (dVar 2)))) (dNil)))
noncomputable def d_rank_in : PF := defD 2 n_rank_in false g_rank_in
theorem bd_rank_in (T : Tops P w K mg base) (G_int_rank : Dfn P w K mg base "int_rank" 4 ["rows"] false d_int_rank) : ∀ (f : Addr) (cdv : Value) (A : Around) (outer : List PySem.Env) (s : Shared) (H : Hp) (E : XK), Room 4 (A.deeper (envOfC "rank_in" (defScope s_rank_in) s.heap.objs.size f cdv)) → DSs (cxOf CX0 P w K mg base n_rank_in "rank_in" (defScope s_rank_in) f cdv A outer s H E).nox (defBody s_rank_in) g_rank_in :=
  fun f cdv A outer s H E hr => dss_one (ds_ret (de_f G_int_rank (hr.mono (by decide)) rfl (da_cons (de_new (dn_comp (own := [("at", 2)]) (sf := false) rfl sc_rank_in.nd (di_list (dsrc (de_var (pv 1)))) (blkOk_by (N := n_rank_in) (sc := defScope s_rank_in) (by decide +kernel)) (fun _ _ _ _ _ => dg_name (pg_name (i := 2) sc_rank_in.nd rfl (.inl rfl))) (fun _ _ _ _ _ => dts_nil) (fun _ _ _ _ _ => de_ix ix_seq r2_ix (de_var (pv 0)) (de_var (pv 2)) (fun _ _ => rfl)) tgOk_name (by decide))) (da_nil))))
theorem df_rank_in (T : Tops P w K mg base) (F : Stands K mg "rank_in" s_rank_in) (G_int_rank : Dfn P w K mg base "int_rank" 4 ["rows"] false d_int_rank) : Dfn P w K mg base "rank_in" 5 ["rows", "lot"] false d_rank_in :=
  dfn (g := g_rank_in) F sc_rank_in (by decide) (fun _ _ _ _ _ _ us hl => match us, hl with | [_, _], _ => rfl) (bd_rank_in T G_int_rank)

/-! ### bases_in -/
abbrev s_bases_in : Stmt := topS 41
abbrev n_bases_in : List Str := ["rows", "full", "some", "lot"]
theorem sc_bases_in : FnScope n_bases_in ["rows"] (defScope s_bases_in) := ⟨rfl, rfl, rfl, by decide +kernel, rfl, by decide +kernel, by decide +kernel⟩
noncomputable def g_bases_in : SF := dSeq (dAsg (dCall d_int_rank (dCons (dVar 0) (dNil))) (tgName .al 1)) (dSeq (dAsg (eL (lComp [3] (lOf (dCall d_lots_of (dCons (dApp gLen (dCons (dVar 0) (dNil))) (dNil)))) (tgName .al 3) (bOf (dBin gEq (dApp gLen (dCons (dVar 3) (dNil))) (dVar 1))) (dVar 3))) (tgName .al 2)) (dRet (eL (lSorted (lComp [3] (lOf (dVar 2)) (tgName .al 3) (bOf (dBin gEq (dCall d_rank_in (dCons (dVar 0) (dCons (dVar 3) (dNil)))) (dVar 1))) (dVar 3))))))
noncomputable def d_bases_in : PF := defD 1 n_bases_in false g_bases_in
theorem bd_bases_in (T : Tops P w K mg base) (G_int_rank : Dfn P w K mg base "int_rank" 4 ["rows"] false d_int_rank) (G_lots_of : Dfn P w K mg base "lots_of" 1 ["many"] false d_lots_of) (G_rank_in : Dfn P w K mg base "rank_in" 5 ["rows", "lot"] false d_rank_in) : ∀ (f : Addr) (cdv : Value) (A : Around) (outer : List PySem.Env) (s : Shared) (H : Hp) (E : XK), Room 5 (A.deeper (envOfC "bases_in" (defScope s_bases_in) s.heap.objs.size f cdv)) → DSs (cxOf CX0 P w K mg base n_bases_in "bases_in" (defScope s_bases_in) f cdv A outer s H E).nox (defBody s_bases_in) g_bases_in :=
  fun f cdv A outer s H E hr => dss_cons (ds_set (i := 1) sc_bases_in.nd rfl (.inr rfl) (de_f G_int_rank (hr.mono (by decide)) rfl (da_cons (de_var (pv 0)) (da_nil)))) (dss_cons (ds_setC (i := 2) (own := [("lot", 3)]) (sf := false) rfl sc_bases_in.nd rfl rfl (sw_true rfl rfl rfl (by decide +kernel)) (di_list (dsrc (de_f G_lots_of (hr.mono (by decide)) rfl (da_cons (de_callB (m := .al) call_len_seq ra_len rfl T.z_len PySem.boot_len (da_cons (de_var (pv 0)) (da_nil))) (da_nil))))) (blkOk_by (N := n_bases_in) (sc := defScope s_bases_in) (by decide +kernel)) (fun _ _ _ _ _ => dg_name (pg_name (i := 3) sc_bases_in.nd rfl (.inl rfl))) (fun _ _ _ _ _ => dts_one (dt_cmp (m := .al) (m' := .al) (op_eqD hr.units) r2_eq (de_callB (m := .al) call_len_seq ra_len rfl T.z_len PySem.boot_len (da_cons (de_var (pv 3)) (da_nil))) (de_var (pv 1)) (nomark _))) (fun _ _ _ _ _ => de_var (pv 3)) tgOk_name (by decide)) (dss_one (ds_ret (de_new (dn_sorted (sf := false) hr.units rfl T.z_sorted (DSrc.loose (dsrc_new (dn_comp (own := [("lot", 3)]) (sf := false) rfl sc_bases_in.nd (di_list (dsrc (de_var (pv 2)))) (blkOk_by (N := n_bases_in) (sc := defScope s_bases_in) (by decide +kernel)) (fun _ _ _ _ _ => dg_name (pg_name (i := 3) sc_bases_in.nd rfl (.inl rfl))) (fun _ _ _ _ _ => dts_one (dt_cmp (m := .al) (m' := .al) (op_eqD hr.units) r2_eq (de_f G_rank_in (hr.mono (by decide)) rfl (da_cons (de_var (pv 0)) (da_cons (de_var (pv 3)) (da_nil)))) (de_var (pv 1)) (nomark _))) (fun _ _ _ _ _ => de_var (pv 3)) tgOk_name (by decide)))))))))
theorem df_bases_in (T : Tops P w K mg base) (F : Stands K mg "bases_in" s_bases_in) (G_int_rank : Dfn P w K mg base "int_rank" 4 ["rows"] false d_int_rank) (G_lots_of : Dfn P w K mg base "lots_of" 1 ["many"] false d_lots_of) (G_rank_in : Dfn P w K mg base "rank_in" 5 ["rows", "lot"] false d_rank_in) : Dfn P w K mg base "bases_in" 6 ["rows"] false d_bases_in :=
  dfn (g := g_bases_in) F sc_bases_in (by decide) (fun _ _ _ _ _ _ us hl => match us, hl with | [_], _ => rfl) (bd_bases_in T G_int_rank G_lots_of G_rank_in)

/-! ### weight_in -/
abbrev s_weight_in : Stmt := topS 42
abbrev n_weight_in : List Str := ["weights", "lot", "at"]
theorem sc_weight_in : FnScope n_weight_in ["weights", "lot"] (defScope s_weight_in) := ⟨rfl, rfl, rfl, by decide +kernel, rfl, by decide +kernel, by decide +kernel⟩
noncomputable def g_weight_in : SF := dRet (dCall d_total_of (dCons (eL (lComp [2] (lOf (dVar 1)) (tgName .al 2) (bTrue) (dBin gIx (dVar 0) (dVar 2)))) (dNil)))
noncomputable def d_weight_in : PF := defD 2 n_weight_in false g_weight_in
theorem bd_weight_in (T : Tops P w K mg base) (G_total_of : Dfn P w K mg base "total_of" 5 ["ratios"] false d_total_of) : ∀ (f : Addr) (cdv : Value) (A : Around) (outer : List PySem.Env) (s : Shared) (H : Hp) (E : XK), Room 5 (A.deeper (envOfC "weight_in" (defScope s_weight_in) s.heap.objs.size f cdv)) → DSs (cxOf CX0 P w K mg base n_weight_in "weight_in" (defScope s_weight_in) f cdv A outer s H E).nox (defBody s_weight_in) g_weight_in :=
  fun f cdv A outer s H E hr => dss_one (ds_ret (de_f G_total_of (hr.mono (by decide)) rfl (da_cons (de_new (dn_comp (own := [("at", 2)]) (sf := false) rfl sc_weight_in.nd (di_list (dsrc (de_var (pv 1)))) (blkOk_by (N := n_weight_in) (sc := defScope s_weight_in) (by decide +kernel)) (fun _ _ _ _ _ => dg_name (pg_name (i := 2) sc_weight_in.nd rfl (.inl rfl))) (fun _ _ _ _ _ => dts_nil) (fun _ _ _ _ _ => de_ix ix_seq r2_ix (de_var (pv 0)) (de_var (pv 2)) (fun _ _ => rfl)) tgOk_name (by decide))) (da_nil))))
theorem df_weight_in (T : Tops P w K mg base) (F : Stands K mg "weight_in" s_weight_in) (G_total_of : Dfn P w K mg base "total_of" 5 ["ratios"] false d_total_of) : Dfn P w K mg base "weight_in" 6 ["weights", "lot"] false d_weight_in :=
  dfn (g := g_weight_in) F sc_weight_in (by decide) (fun _ _ _ _ _ _ us hl => match us, hl with | [_, _], _ => rfl) (bd_weight_in T G_total_of)

/-! ### excess_in -/
abbrev s_excess_in : Stmt := topS 43
abbrev n_excess_in : List Str := ["rows", "weights", "lot"]
theorem sc_excess_in : FnScope n_excess_in ["rows", "weights", "lot"] (defScope s_excess_in) := ⟨rfl, rfl, rfl, by decide +kernel, rfl, by decide +kernel, by decide +kernel⟩
noncomputable def g_excess_in : SF := dRet (dBop d_Rt_sub (dBop d_Rt_mul (dCall d_weight_in (dCons (dVar 1) (dCons (dVar 2) (dNil)))) (dCall d_int_rank (dCons (dVar 0) (dNil)))) (dBop d_Rt_mul (dCall d_total_of (dCons (dVar 1) (dNil))) (dCall d_rank_in (dCons (dVar 0) (dCons (dVar 2) (dNil))))))
noncomputable def d_excess_in : PF := defD 3 n_excess_in false g_excess_in
theorem bd_excess_in (T : Tops P w K mg base) (G_weight_in : Dfn P w K mg base "weight_in" 6 ["weights", "lot"] false d_weight_in) (G_int_rank : Dfn P w K mg base "int_rank" 4 ["rows"] false d_int_rank) (B_mul : Bop P w K mg base .Mult 4 d_Rt_mul) (G_total_of : Dfn P w K mg base "total_of" 5 ["ratios"] false d_total_of) (G_rank_in : Dfn P w K mg base "rank_in" 5 ["rows", "lot"] false d_rank_in) (B_sub : Bop P w K mg base .Sub 4 d_Rt_sub) : ∀ (f : Addr) (cdv : Value) (A : Around) (outer : List PySem.Env) (s : Shared) (H : Hp) (E : XK), Room 6 (A.deeper (envOfC "excess_in" (defScope s_excess_in) s.heap.objs.size f cdv)) → DSs (cxOf CX0 P w K mg base n_excess_in "excess_in" (defScope s_excess_in) f cdv A outer s H E).nox (defBody s_excess_in) g_excess_in :=
  fun f cdv A outer s H E hr => dss_one (ds_ret (de_bop B_sub (hr.mono (by decide)) (de_bop B_mul (hr.mono (by decide)) (de_f G_weight_in (hr.mono (by decide)) rfl (da_cons (de_var (pv 1)) (da_cons (de_var (pv 2)) (da_nil)))) (de_f G_int_rank (hr.mono (by decide)) rfl (da_cons (de_var (pv 0)) (da_nil)))) (de_bop B_mul (hr.mono (by decide)) (de_f G_total_of (hr.mono (by decide)) rfl (da_cons (de_var (pv 1)) (da_nil))) (de_f G_rank_in (hr.mono (by decide)) rfl (da_cons (de_var (pv 0)) (da_cons (de_var (pv 2)) (da_nil)))))))
theorem df_excess_in (T : Tops P w K mg base) (F : Stands K mg "excess_in" s_excess_in) (G_weight_in : Dfn P w K mg base "weight_in" 6 ["weights", "lot"] false d_weight_in) (G_int_rank : Dfn P w K mg base "int_rank" 4 ["rows"] false d_int_rank) (B_mul : Bop P w K mg base .Mult 4 d_Rt_mul) (G_total_of : Dfn P w K mg base "total_of" 5 ["ratios"] false d_total_of) (G_rank_in : Dfn P w K mg base "rank_in" 5 ["rows", "lot"] false d_rank_in) (B_sub : Bop P w K mg base .Sub 4 d_Rt_sub) : Dfn P w K mg base "excess_in" 7 ["rows", "weights", "lot"] false d_excess_in :=
  dfn (g := g_excess_in) F sc_excess_in (by decide) (fun _ _ _ _ _ _ us hl => match us, hl with | [_, _, _], _ => rfl) (bd_excess_in T G_weight_in G_int_rank B_mul G_total_of G_rank_in B_sub)

/-! ### is_lists -/
abbrev s_is_lists : Stmt := topS 44
abbrev n_is_lists : List Str := ["value"]
theorem sc_is_lists : FnScope n_is_lists ["value"] (defScope s_is_lists) := ⟨rfl, rfl, rfl, by decide +kernel, rfl, by decide +kernel, by decide +kernel⟩
noncomputable def g_is_lists : SF := dRet (dCall d_are_lists (dCons (dVar 0) (dNil)))
noncomputable def d_is_lists : PF := defD 1 n_is_lists false g_is_lists
theorem bd_is_lists (T : Tops P w K mg base) (G_are_lists : Dfn P w K mg base "are_lists" 7 ["value"] false d_are_lists) : ∀ (f : Addr) (cdv : Value) (A : Around) (outer : List PySem.Env) (s : Shared) (H : Hp) (E : XK), Room 7 (A.deeper (envOfC "is_lists" (defScope s_is_lists) s.heap.objs.size f cdv)) → DSs (cxOf CX0 P w K mg base n_is_lists "is_lists" (defScope s_is_lists) f cdv A outer s H E).nox (defBody s_is_lists) g_is_lists :=
  fun f cdv A outer s H E hr => dss_one (ds_ret (de_f G_are_lists (hr.mono (by decide)) rfl (da_cons (de_var (pv 0)) (da_nil))))
theorem df_is_lists (T : Tops P w K mg base) (F : Stands K mg "is_lists" s_is_lists) (G_are_lists : Dfn P w K mg base "are_lists" 7 ["value"] false d_are_lists) : Dfn P w K mg base "is_lists" 8 ["value"] false d_is_lists :=
  dfn (g := g_is_lists) F sc_is_lists (by decide) (fun _ _ _ _ _ _ us hl => match us, hl with | [_], _ => rfl) (bd_is_lists T G_are_lists)

/-! ### is_weights -/
abbrev s_is_weights : Stmt := topS 45
abbrev n_is_weights : List Str := ["lists", "value"]
theorem sc_is_weights : FnScope n_is_weights ["lists", "value"] (defScope s_is_weights) := ⟨rfl, rfl, rfl, by decide +kernel, rfl, by decide +kernel, by decide +kernel⟩
noncomputable def g_is_weights : SF := dRet (dCall d_are_weights (dCons (dApp gLen (dCons (dCall d_want_lists (dCons (dVar 0) (dNil))) (dNil))) (dCons (dVar 1) (dNil))))
noncomputable def d_is_weights : PF := defD 2 n_is_weights false g_is_weights
theorem bd_is_weights (T : Tops P w K mg base) (G_are_weights : Dfn P w K mg base "are_weights" 6 ["many", "value"] false d_are_weights) (G_want_lists : Dfn P w K mg base "want_lists" 8 ["value"] true d_want_lists) : ∀ (f : Addr) (cdv : Value) (A : Around) (outer : List PySem.Env) (s : Shared) (H : Hp) (E : XK), Room 8 (A.deeper (envOfC "is_weights" (defScope s_is_weights) s.heap.objs.size f cdv)) → DSs (cxOf CX0 P w K mg base n_is_weights "is_weights" (defScope s_is_weights) f cdv A outer s H E).nox (defBody s_is_weights) g_is_weights :=
  fun f cdv A outer s H E hr => dss_one (ds_ret (de_f G_are_weights (hr.mono (by decide)) rfl (da_cons (de_callB (m := .al) call_len_seq ra_len rfl T.z_len PySem.boot_len (da_cons (de_fF (m := .al) G_want_lists (hr.mono (by decide)) rfl (da_cons (de_var (pv 0)) (da_nil))) (da_nil))) (da_cons (de_var (pv 1)) (da_nil)))))
theorem df_is_weights (T : Tops P w K mg base) (F : Stands K mg "is_weights" s_is_weights) (G_are_weights : Dfn P w K mg base "are_weights" 6 ["many", "value"] false d_are_weights) (G_want_lists : Dfn P w K mg base "want_lists" 8 ["value"] true d_want_lists) : Dfn P w K mg base "is_weights" 9 ["lists", "value"] false d_is_weights :=
  dfn (g := g_is_weights) F sc_is_weights (by decide) (fun _ _ _ _ _ _ us hl => match us, hl with | [_, _], _ => rfl) (bd_is_weights T G_are_weights G_want_lists)

/-! ### is_lot -/
abbrev s_is_lot : Stmt := topS 46
abbrev n_is_lot : List Str := ["lists", "value"]
theorem sc_is_lot : FnScope n_is_lot ["lists", "value"] (defScope s_is_lot) := ⟨rfl, rfl, rfl, by decide +kernel, rfl, by decide +kernel, by decide +kernel⟩
noncomputable def g_is_lot : SF := dRet (dCall d_is_lot_of (dCons (dApp gLen (dCons (dCall d_want_lists (dCons (dVar 0) (dNil))) (dNil))) (dCons (dVar 1) (dNil))))
noncomputable def d_is_lot : PF := defD 2 n_is_lot false g_is_lot
theorem bd_is_lot (T : Tops P w K mg base) (G_is_lot_of : Dfn P w K mg base "is_lot_of" 3 ["many", "value"] false d_is_lot_of) (G_want_lists : Dfn P w K mg base "want_lists" 8 ["value"] true d_want_lists) : ∀ (f : Addr) (cdv : Value) (A : Around) (outer : List PySem.Env) (s : Shared) (H : Hp) (E : XK), Room 8 (A.deeper (envOfC "is_lot" (defScope s_is_lot) s.heap.objs.size f cdv)) → DSs (cxOf CX0 P w K mg base n_is_lot "is_lot" (defScope s_is_lot) f cdv A outer s H E).nox (defBody s_is_lot) g_is_lot :=
  fun f cdv A outer s H E hr => dss_one (ds_ret (de_f G_is_lot_of (hr.mono (by decide)) rfl (da_cons (de_callB (m := .al) call_len_seq ra_len rfl T.z_len PySem.boot_len (da_cons (de_fF (m := .al) G_want_lists (hr.mono (by decide)) rfl (da_cons (de_var (pv 0)) (da_nil))) (da_nil))) (da_cons (de_var (pv 1)) (da_nil)))))
theorem df_is_lot (T : Tops P w K mg base) (F : Stands K mg "is_lot" s_is_lot) (G_is_lot_of : Dfn P w K mg base "is_lot_of" 3 ["many", "value"] false d_is_lot_of) (G_want_lists : Dfn P w K mg base "want_lists" 8 ["value"] true d_want_lists) : Dfn P w K mg base "is_lot" 9 ["lists", "value"] false d_is_lot :=
  dfn (g := g_is_lot) F sc_is_lot (by decide) (fun _ _ _ _ _ _ us hl => match us, hl with | [_, _], _ => rfl) (bd_is_lot T G_is_lot_of G_want_lists)

/-! ### lot_rank -/
abbrev s_lot_rank : Stmt := topS 47
abbrev n_lot_rank : List Str := ["lists", "lot", "rows"]
theorem sc_lot_rank : FnScope n_lot_rank ["lists", "lot"] (defScope s_lot_rank) := ⟨rfl, rfl, rfl, by decide +kernel, rfl, by decide +kernel, by decide +kernel⟩
noncomputable def g_lot_rank : SF := dSeq (dAsg (dCall d_want_lists (dCons (dVar 0) (dNil))) (tgName .al 2)) (dRet (dCall d_rank_in (dCons (dVar 2) (dCons (dCall d_want_lot (dCons (dApp gLen (dCons (dVar 2) (dNil))) (dCons (dVar 1) (dNil)))) (dNil)))))
noncomputable def d_lot_rank : PF := defD 2 n_lot_rank false g_lot_rank
theorem bd_lot_rank (T : Tops P w K mg base) (G_want_lists : Dfn P w K mg base "want_lists" 8 ["value"] true d_want_lists) (G_rank_in : Dfn P w K mg base "rank_in" 5 ["rows", "lot"] false d_rank_in) (G_want_lot : Dfn P w K mg base "want_lot" 4 ["many", "value"] false d_want_lot) : ∀ (f : Addr) (cdv : Value) (A : Around) (outer : List PySem.Env) (s : Shared) (H : Hp) (E : XK), Room 8 (A.deeper (envOfC "lot_rank" (defScope s_lot_rank) s.heap.objs.size f cdv)) → DSs (cxOf CX0 P w K mg base n_lot_rank "lot_rank" (defScope s_lot_rank) f cdv A outer s H E).nox (defBody s_lot_rank) g_lot_rank :=
  fun f cdv A outer s H E hr => dss_cons (ds_set (i := 2) sc_lot_rank.nd rfl (.inl rfl) (de_fF (m := .al) G_want_lists (hr.mono (by decide)) rfl (da_cons (de_var (pv 0)) (da_nil)))) (dss_one (ds_ret (de_f G_rank_in (hr.mono (by decide)) rfl (da_cons (de_var (pv 2)) (da_cons (de_f G_want_lot (hr.mono (by decide)) rfl (da_cons (de_callB (m := .al) call_len_seq ra_len rfl T.z_len PySem.boot_len (da_cons (de_var (pv 2)) (da_nil))) (da_cons (de_var (pv 1)) (da_nil)))) (da_nil))))))
theorem df_lot_rank (T : Tops P w K mg base) (F : Stands K mg "lot_rank" s_lot_rank) (G_want_lists : Dfn P w K mg base "want_lists" 8 ["value"] true d_want_lists) (G_rank_in : Dfn P w K mg base "rank_in" 5 ["rows", "lot"] false d_rank_in) (G_want_lot : Dfn P w K mg base "want_lot" 4 ["many", "value"] false d_want_lot) : Dfn P w K mg base "lot_rank" 9 ["lists", "lot"] false d_lot_rank :=
  dfn (g := g_lot_rank) F sc_lot_rank (by decide) (fun _ _ _ _ _ _ us hl => match us, hl with | [_, _], _ => rfl) (bd_lot_rank T G_want_lists G_rank_in G_want_lot)

/-! ### bases -/
abbrev s_bases : Stmt := topS 48
abbrev n_bases : List Str := ["lists"]
theorem sc_bases : FnScope n_bases ["lists"] (defScope s_bases) := ⟨rfl, rfl, rfl, by decide +kernel, rfl, by decide +kernel, by decide +kernel⟩
noncomputable def g_bases : SF := dRet (dCall d_bases_in (dCons (dCall d_want_lists (dCons (dVar 0) (dNil))) (dNil)))
noncomputable def d_bases : PF := defD 1 n_bases false g_bases
theorem bd_bases (T : Tops P w K mg base) (G_bases_in : Dfn P w K mg base "bases_in" 6 ["rows"] false d_bases_in) (G_want_lists : Dfn P w K mg base "want_lists" 8 ["value"] true d_want_lists) : ∀ (f : Addr) (cdv : Value) (A : Around) (outer : List PySem.Env) (s : Shared) (H : Hp) (E : XK), Room 8 (A.deeper (envOfC "bases" (defScope s_bases) s.heap.objs.size f cdv)) → DSs (cxOf CX0 P w K mg base n_bases "bases" (defScope s_bases) f cdv A outer s H E).nox (defBody s_bases) g_bases :=
  fun f cdv A outer s H E hr => dss_one (ds_ret (de_f G_bases_in (hr.mono (by decide)) rfl (da_cons (de_fF (m := .al) G_want_lists (hr.mono (by decide)) rfl (da_cons (de_var (pv 0)) (da_nil))) (da_nil))))
theorem df_bases (T : Tops P w K mg base) (F : Stands K mg "bases" s_bases) (G_bases_in : Dfn P w K mg base "bases_in" 6 ["rows"] false d_bases_in) (G_want_lists : Dfn P w K mg base "want_lists" 8 ["value"] true d_want_lists) : Dfn P w K mg base "bases" 9 ["lists"] false d_bases :=
  dfn (g := g_bases) F sc_bases (by decide) (fun _ _ _ _ _ _ us hl => match us, hl with | [_], _ => rfl) (bd_bases T G_bases_in G_want_lists)

/-! ### excess -/
abbrev s_excess : Stmt := topS 49
abbrev n_excess : List Str := ["lists", "weights", "lot", "rows", "told"]
theorem sc_excess : FnScope n_excess ["lists", "weights", "lot"] (defScope s_excess) := ⟨rfl, rfl, rfl, by decide +kernel, rfl, by decide +kernel, by decide +kernel⟩
noncomputable def g_excess : SF := dSeq (dAsg (dCall d_want_lists (dCons (dVar 0) (dNil))) (tgName .al 3)) (dSeq (dAsg (dCall d_want_weights (dCons (dApp gLen (dCons (dVar 3) (dNil))) (dCons (dVar 1) (dNil)))) (tgName .al 4)) (dRet (dCall d_excess_in (dCons (dVar 3) (dCons (dVar 4) (dCons (dCall d_want_lot (dCons (dApp gLen (dCons (dVar 3) (dNil))) (dCons (dVar 2) (dNil)))) (dNil)))))))
noncomputable def d_excess : PF := defD 3 n_excess false g_excess
theorem bd_excess (T : Tops P w K mg base) (G_want_lists : Dfn P w K mg base "want_lists" 8 ["value"] true d_want_lists) (G_want_weights : Dfn P w K mg base "want_weights" 7 ["many", "value"] true d_want_weights) (G_excess_in : Dfn P w K mg base "excess_in" 7 ["rows", "weights", "lot"] false d_excess_in) (G_want_lot : Dfn P w K mg base "want_lot" 4 ["many", "value"] false d_want_lot) : ∀ (f : Addr) (cdv : Value) (A : Around) (outer : List PySem.Env) (s : Shared) (H : Hp) (E : XK), Room 8 (A.deeper (envOfC "excess" (defScope s_excess) s.heap.objs.size f cdv)) → DSs (cxOf CX0 P w K mg base n_excess "excess" (defScope s_excess) f cdv A outer s H E).nox (defBody s_excess) g_excess :=
  fun f cdv A outer s H E hr => dss_cons (ds_set (i := 3) sc_excess.nd rfl (.inl rfl) (de_fF (m := .al) G_want_lists (hr.mono (by decide)) rfl (da_cons (de_var (pv 0)) (da_nil)))) (dss_cons (ds_set (i := 4) sc_excess.nd rfl (.inl rfl) (de_fF (m := .al) G_want_weights (hr.mono (by decide)) rfl (da_cons (de_callB (m := .al) call_len_seq ra_len rfl T.z_len PySem.boot_len (da_cons (de_var (pv 3)) (da_nil))) (da_cons (de_var (pv 1)) (da_nil))))) (dss_one (ds_ret (de_f G_excess_in (hr.mono (by decide)) rfl (da_cons (de_var (pv 3)) (da_cons (de_var (pv 4)) (da_cons (de_f G_want_lot (hr.mono (by decide)) rfl (da_cons (de_callB (m := .al) call_len_seq ra_len rfl T.z_len PySem.boot_len (da_cons (de_var (pv 3)) (da_nil))) (da_cons (de_var (pv 2)) (da_nil)))) (da_nil))))))))
theorem df_excess (T : Tops P w K mg base) (F : Stands K mg "excess" s_excess) (G_want_lists : Dfn P w K mg base "want_lists" 8 ["value"] true d_want_lists) (G_want_weights : Dfn P w K mg base "want_weights" 7 ["many", "value"] true d_want_weights) (G_excess_in : Dfn P w K mg base "excess_in" 7 ["rows", "weights", "lot"] false d_excess_in) (G_want_lot : Dfn P w K mg base "want_lot" 4 ["many", "value"] false d_want_lot) : Dfn P w K mg base "excess" 9 ["lists", "weights", "lot"] false d_excess :=
  dfn (g := g_excess) F sc_excess (by decide) (fun _ _ _ _ _ _ us hl => match us, hl with | [_, _, _], _ => rfl) (bd_excess T G_want_lists G_want_weights G_excess_in G_want_lot)

/-! ### the pot -/
abbrev s__law_draw : Stmt := topS 52
abbrev n__law_draw : List Str := ["pot", "many", "digit"]
theorem sc__law_draw : FnScope n__law_draw ["pot", "many"] (defScope s__law_draw) := ⟨rfl, rfl, rfl, by decide +kernel, rfl, by decide +kernel, by decide +kernel⟩
abbrev d__law_draw : PF := drawP 8329
theorem df__law_draw (T : Tops P w K mg base) (F : Stands K mg "_law_draw" s__law_draw) : Dfn P w K mg base "_law_draw" 1 ["pot", "many"] false d__law_draw := by
  obtain ⟨f, fd, F, hm⟩ := F
  refine ⟨f, fd, draw_ok rfl F sc__law_draw fun cdv A outer s H E hr => ?_, hm, F.kp, F.binds (fun _ _ _ _ _ _ us hl => match us, hl with | [_, _], _ => rfl)⟩
  exact pss_cons (ps_if (pt_cmpR op_gt (pe_ix ix_list (pv 0) pe_int (fun _ _ => rfl)) pe_int (nomark _))
      (pss_cons (ps_asg (pe_callB call_divmod (by rfl) T.z_divmod PyProof.Rows.boot_divmod (pa_cons (pe_ix ix_list (pv 0) pe_int (fun _ _ => rfl)) (pa_cons (pv 1) pa_nil))) (pg_tup rfl (pgs_cons (pg_sub (pv 0) pe_int set_list) (pgs_cons (pg_name (i := 2) sc__law_draw.nd rfl (.inl rfl)) pgs_nil))))
        (pss_one (ps_ret (pv 2)))) pss_nil)
    (pss_cons (ps_asg (pe_op op_mod (pe_callTy call_int1 (by rfl) T.z_int (by decide +kernel) (pa_cons (pe_op op_add (pe_op op_mul (pe_ix ix_list (pv 0) pe_int (fun _ _ => rfl)) pe_int) pe_int) pa_nil)) pe_int) (pg_sub (pv 0) pe_int set_list))
      (pss_one (ps_ret (pe_op op_mod (pe_callTy call_int1 (by rfl) T.z_int (by decide +kernel) (pa_cons (pe_op op_fdiv (pe_op op_mod (pe_callTy call_int1 (by rfl) T.z_int (by decide +kernel) (pa_cons (pe_op op_mul (pe_ix ix_list (pv 0) pe_int (fun _ _ => rfl)) (pe_ix ix_list (pv 0) pe_int (fun _ _ => rfl))) pa_nil)) pe_int) pe_int) pa_nil)) (pv 1)))))
abbrev s__law_pick : Stmt := topS 53
abbrev n__law_pick : List Str := ["pot", "some"]
theorem sc__law_pick : FnScope n__law_pick ["pot", "some"] (defScope s__law_pick) := ⟨rfl, rfl, rfl, by decide +kernel, rfl, by decide +kernel, by decide +kernel⟩
theorem pk__law_pick (T : Tops P w K mg base) (F : Stands K mg "_law_pick" s__law_pick) (G__law_draw : Dfn P w K mg base "_law_draw" 1 ["pot", "many"] false d__law_draw) : Pck P w K mg base 2 8329 := by
  obtain ⟨g, gd, Fg, gm, gk, gb⟩ := G__law_draw.ex
  obtain ⟨f, fd, F, hm⟩ := F
  refine ⟨f, fd, pick_ok rfl F sc__law_pick fun cdv A outer s H E hr => ?_, hm, F.kp, F.binds (fun _ _ _ _ _ _ us hl => match us, hl with | [_, _], _ => rfl)⟩
  exact pss_one (ps_ret (pe_ix ix_seq (pv 1) (pe_call Fg hr (by rfl) gm gk gb .nil pass0 (pa_cons (pv 0) (pa_cons (pe_callB call_len_seq (by rfl) T.z_len PySem.boot_len (pa_cons (pv 1) pa_nil)) pa_nil))) (fun _ _ => rfl)))

/-! ### _law_frac -/
abbrev s__law_frac : Stmt := topS 54
abbrev n__law_frac : List Str := ["above", "below", "a", "b"]
theorem sc__law_frac : FnScope n__law_frac ["above", "below"] (defScope s__law_frac) := ⟨rfl, rfl, rfl, by decide +kernel, rfl, by decide +kernel, by decide +kernel⟩
noncomputable def g__law_frac : SF := dSeq (dPar 2 3 (dApp gAbs (dCons (dVar 0) (dNil))) (dVar 1)) (dSeq (dWhile (bOf (dBin gNe (dVar 3) (dK (.int 0)))) (dPar 2 3 (dVar 3) (dApp gInt (dCons (dBin gMod (dVar 2) (dVar 3)) (dNil))))) (dRet (dTup (dCons (dBin gFdiv (dVar 0) (dVar 2)) (dCons (dBin gFdiv (dVar 1) (dVar 2)) (dNil))))))
noncomputable def d__law_frac : PF := defD 2 n__law_frac false g__law_frac
theorem bd__law_frac (T : Tops P w K mg base)  : ∀ (f : Addr) (cdv : Value) (A : Around) (outer : List PySem.Env) (s : Shared) (H : Hp) (E : XK), Room 0 (A.deeper (envOfC "_law_frac" (defScope s__law_frac) s.heap.objs.size f cdv)) → DSs (cxOf CX0 P w K mg base n__law_frac "_law_frac" (defScope s__law_frac) f cdv A outer s H E).nox (defBody s__law_frac) g__law_frac :=
  fun f cdv A outer s H E hr => dss_cons (ds_par rfl sc__law_frac.nd rfl rfl (by decide) rfl rfl (de_callB (m := .al) call_abs ra_abs rfl T.z_abs (by decide +kernel) (da_cons (de_var (pv 0)) (da_nil))) (de_var (pv 1)) rfl) (dss_cons (ds_while PassesOwn.never (dt_cmp (m := .al) (m' := .al) (op_neD hr.units) r2_ne (de_var (pv 3)) (de_int) (nomark _)) (dss_one (ds_par rfl sc__law_frac.nd rfl rfl (by decide) rfl rfl (de_var (pv 3)) (de_callTy (m := .al) call_int1 ra_int rfl T.z_int (by decide +kernel) (da_cons (de_op (m := .al) op_modN r2_mod (de_var (pv 2)) (de_var (pv 3))) (da_nil))) rfl))) (dss_one (ds_ret (de_tup (da_cons (de_op (m := .al) op_fdivA r2_fdiv (de_var (pv 0)) (de_var (pv 2))) (da_cons (de_op (m := .al) op_fdivA r2_fdiv (de_var (pv 1)) (de_var (pv 2))) (da_nil)))))))
theorem df__law_frac (T : Tops P w K mg base) (F : Stands K mg "_law_frac" s__law_frac)  : Dfn P w K mg base "_law_frac" 1 ["above", "below"] false d__law_frac :=
  dfn (g := g__law_frac) F sc__law_frac (by decide) (fun _ _ _ _ _ _ us hl => match us, hl with | [_, _], _ => rfl) (bd__law_frac T )

/-! ### _law_plus -/
abbrev s__law_plus : Stmt := topS 55
abbrev n__law_plus : List Str := ["a", "b"]
theorem sc__law_plus : FnScope n__law_plus ["a", "b"] (defScope s__law_plus) := ⟨rfl, rfl, rfl, by decide +kernel, rfl, by decide +kernel, by decide +kernel⟩
noncomputable def g__law_plus : SF := dRet (dCall d__law_frac (dCons (dBin gAdd (dBin gMul (dBin gIx (dVar 0) (dK (.int 0))) (dBin gIx (dVar 1) (dK (.int 1)))) (dBin gMul (dBin gIx (dVar 1) (dK (.int 0))) (dBin gIx (dVar 0) (dK (.int 1))))) (dCons (dBin gMul (dBin gIx (dVar 0) (dK (.int 1))) (dBin gIx (dVar 1) (dK (.int 1)))) (dNil))))
noncomputable def d__law_plus : PF := defD 2 n__law_plus false g__law_plus
theorem bd__law_plus (T : Tops P w K mg base) (G__law_frac : Dfn P w K mg base "_law_frac" 1 ["above", "below"] false d__law_frac) : ∀ (f : Addr) (cdv : Value) (A : Around) (outer : List PySem.Env) (s : Shared) (H : Hp) (E : XK), Room 1 (A.deeper (envOfC "_law_plus" (defScope s__law_plus) s.heap.objs.size f cdv)) → DSs (cxOf CX0 P w K mg base n__law_plus "_law_plus" (defScope s__law_plus) f cdv A outer s H E).nox (defBody s__law_plus) g__law_plus :=
  fun f cdv A outer s H E hr => dss_one (ds_ret (de_f G__law_frac (hr.mono (by decide)) rfl (da_cons (de_op op_addA r2_add (de_op op_mulA r2_mul (de_ix ix_seq r2_ix (de_var (pv 0)) (de_int) (fun _ _ => rfl)) (de_ix ix_seq r2_ix (de_var (pv 1)) (de_int) (fun _ _ => rfl))) (de_op op_mulA r2_mul (de_ix ix_seq r2_ix (de_var (pv 1)) (de_int) (fun _ _ => rfl)) (de_ix ix_seq r2_ix (de_var (pv 0)) (de_int) (fun _ _ => rfl)))) (da_cons (de_op op_mulA r2_mul (de_ix ix_seq r2_ix (de_var (pv 0)) (de_int) (fun _ _ => rfl)) (de_ix ix_seq r2_ix (de_var (pv 1)) (de_int) (fun _ _ => rfl))) (da_nil)))))
theorem df__law_plus (T : Tops P w K mg base) (F : Stands K mg "_law_plus" s__law_plus) (G__law_frac : Dfn P w K mg base "_law_frac" 1 ["above", "below"] false d__law_frac) : Dfn P w K mg base "_law_plus" 2 ["a", "b"] false d__law_plus :=
  dfn (g := g__law_plus) F sc__law_plus (by decide) (fun _ _ _ _ _ _ us hl => match us, hl with | [_, _], _ => rfl) (bd__law_plus T G__law_frac)

/-! ### _law_times -/
abbrev s__law_times : Stmt := topS 56
abbrev n__law_times : List Str := ["a", "b"]
theorem sc__law_times : FnScope n__law_times ["a", "b"] (defScope s__law_times) := ⟨rfl, rfl, rfl, by decide +kernel, rfl, by decide +kernel, by decide +kernel⟩
noncomputable def g__law_times : SF := dRet (dCall d__law_frac (dCons (dBin gMul (dBin gIx (dVar 0) (dK (.int 0))) (dBin gIx (dVar 1) (dK (.int 0)))) (dCons (dBin gMul (dBin gIx (dVar 0) (dK (.int 1))) (dBin gIx (dVar 1) (dK (.int 1)))) (dNil))))
noncomputable def d__law_times : PF := defD 2 n__law_times false g__law_times
theorem bd__law_times (T : Tops P w K mg base) (G__law_frac : Dfn P w K mg base "_law_frac" 1 ["above", "below"] false d__law_frac) : ∀ (f : Addr) (cdv : Value) (A : Around) (outer : List PySem.Env) (s : Shared) (H : Hp) (E : XK), Room 1 (A.deeper (envOfC "_law_times" (defScope s__law_times) s.heap.objs.size f cdv)) → DSs (cxOf CX0 P w K mg base n__law_times "_law_times" (defScope s__law_times) f cdv A outer s H E).nox (defBody s__law_times) g__law_times :=
  fun f cdv A outer s H E hr => dss_one (ds_ret (de_f G__law_frac (hr.mono (by decide)) rfl (da_cons (de_op op_mulA r2_mul (de_ix ix_seq r2_ix (de_var (pv 0)) (de_int) (fun _ _ => rfl)) (de_ix ix_seq r2_ix (de_var (pv 1)) (de_int) (fun _ _ => rfl))) (da_cons (de_op op_mulA r2_mul (de_ix ix_seq r2_ix (de_var (pv 0)) (de_int) (fun _ _ => rfl)) (de_ix ix_seq r2_ix (de_var (pv 1)) (de_int) (fun _ _ => rfl))) (da_nil)))))
theorem df__law_times (T : Tops P w K mg base) (F : Stands K mg "_law_times" s__law_times) (G__law_frac : Dfn P w K mg base "_law_frac" 1 ["above", "below"] false d__law_frac) : Dfn P w K mg base "_law_times" 2 ["a", "b"] false d__law_times :=
  dfn (g := g__law_times) F sc__law_times (by decide) (fun _ _ _ _ _ _ us hl => match us, hl with | [_, _], _ => rfl) (bd__law_times T G__law_frac)

/-! ### _law_sum -/
abbrev s__law_sum : Stmt := topS 57
abbrev n__law_sum : List Str := ["some", "found", "one"]
theorem sc__law_sum : FnScope n__law_sum ["some"] (defScope s__law_sum) := ⟨rfl, rfl, rfl, by decide +kernel, rfl, by decide +kernel, by decide +kernel⟩
noncomputable def g__law_sum : SF := dSeq (dAsg (dTup (dCons (dK (.int 0)) (dCons (dK (.int 1)) (dNil)))) (tgName .al 1)) (dSeq (dFor (lOf (dVar 0)) (tgName .al 2) (dAsg (dCall d__law_plus (dCons (dVar 1) (dCons (dVar 2) (dNil)))) (tgName .al 1))) (dRet (dVar 1)))
noncomputable def d__law_sum : PF := defD 1 n__law_sum false g__law_sum
theorem bd__law_sum (T : Tops P w K mg base) (G__law_plus : Dfn P w K mg base "_law_plus" 2 ["a", "b"] false d__law_plus) : ∀ (f : Addr) (cdv : Value) (A : Around) (outer : List PySem.Env) (s : Shared) (H : Hp) (E : XK), Room 2 (A.deeper (envOfC "_law_sum" (defScope s__law_sum) s.heap.objs.size f cdv)) → DSs (cxOf CX0 P w K mg base n__law_sum "_law_sum" (defScope s__law_sum) f cdv A outer s H E).nox (defBody s__law_sum) g__law_sum :=
  fun f cdv A outer s H E hr => dss_cons (ds_set (i := 1) sc__law_sum.nd rfl (.inl rfl) (de_tup (da_cons (de_int) (da_cons (de_int) (da_nil))))) (dss_cons (ds_for PassesOwn.never rfl (di_list (dsrc (de_var (pv 0)))) (dg_name (pg_name (i := 2) sc__law_sum.nd rfl (.inl rfl))) (dss_one (ds_set (i := 1) sc__law_sum.nd rfl (.inl rfl) (de_f G__law_plus (hr.mono (by decide)) rfl (da_cons (de_var (pv 1)) (da_cons (de_var (pv 2)) (da_nil))))))) (dss_one (ds_ret (de_var (pv 1)))))
theorem df__law_sum (T : Tops P w K mg base) (F : Stands K mg "_law_sum" s__law_sum) (G__law_plus : Dfn P w K mg base "_law_plus" 2 ["a", "b"] false d__law_plus) : Dfn P w K mg base "_law_sum" 3 ["some"] false d__law_sum :=
  dfn (g := g__law_sum) F sc__law_sum (by decide) (fun _ _ _ _ _ _ us hl => match us, hl with | [_], _ => rfl) (bd__law_sum T G__law_plus)

/-! ### _law_ratio -/
abbrev s__law_ratio : Stmt := topS 58
abbrev n__law_ratio : List Str := ["a"]
theorem sc__law_ratio : FnScope n__law_ratio ["a"] (defScope s__law_ratio) := ⟨rfl, rfl, rfl, by decide +kernel, rfl, by decide +kernel, by decide +kernel⟩
noncomputable def g__law_ratio : SF := dRet (dCall (fun a => mkRat (a ++ [])) (dCons (dBin gIx (dVar 0) (dK (.int 0))) (dCons (dBin gIx (dVar 0) (dK (.int 1))) (dNil))))
noncomputable def d__law_ratio : PF := defD 1 n__law_ratio false g__law_ratio
theorem bd__law_ratio (T : Tops P w K mg base) (MK : Mkr P w K mg base 2) : ∀ (f : Addr) (cdv : Value) (A : Around) (outer : List PySem.Env) (s : Shared) (H : Hp) (E : XK), Room 3 (A.deeper (envOfC "_law_ratio" (defScope s__law_ratio) s.heap.objs.size f cdv)) → DSs (cxOf CX0 P w K mg base n__law_ratio "_law_ratio" (defScope s__law_ratio) f cdv A outer s H E).nox (defBody s__law_ratio) g__law_ratio :=
  fun f cdv A outer s H E hr => dss_one (ds_ret (de_mk2 (m := .al) MK (hr.mono (by decide)) rfl (da_cons (de_ix ix_seq r2_ix (de_var (pv 0)) (de_int) (fun _ _ => rfl)) (da_cons (de_ix ix_seq r2_ix (de_var (pv 0)) (de_int) (fun _ _ => rfl)) (da_nil)))))
theorem df__law_ratio (T : Tops P w K mg base) (F : Stands K mg "_law_ratio" s__law_ratio) (MK : Mkr P w K mg base 2) : Dfn P w K mg base "_law_ratio" 4 ["a"] false d__law_ratio :=
  dfn (g := g__law_ratio) F sc__law_ratio (by decide) (fun _ _ _ _ _ _ us hl => match us, hl with | [_], _ => rfl) (bd__law_ratio T MK)

/-! ### _law_of -/
abbrev s__law_of : Stmt := topS 59
abbrev n__law_of : List Str := ["number"]
theorem sc__law_of : FnScope n__law_of ["number"] (defScope s__law_of) := ⟨rfl, rfl, rfl, by decide +kernel, rfl, by decide +kernel, by decide +kernel⟩
noncomputable def g__law_of : SF := dRet (dIf (bOf (dApp (gIsT .int) (dCons (dVar 0) (dCons (dK (.ty "int")) dNil)))) (dTup (dCons (dVar 0) (dCons (dK (.int 1)) (dNil)))) (dTup (dCons (dProp d_Rt_top (dVar 0)) (dCons (dProp d_Rt_bottom (dVar 0)) (dNil)))))
noncomputable def d__law_of : PF := defD 1 n__law_of false g__law_of
theorem bd__law_of (T : Tops P w K mg base) (P_top : Prp P w K mg base "top" 1 d_Rt_top) (P_bottom : Prp P w K mg base "bottom" 1 d_Rt_bottom) : ∀ (f : Addr) (cdv : Value) (A : Around) (outer : List PySem.Env) (s : Shared) (H : Hp) (E : XK), Room 2 (A.deeper (envOfC "_law_of" (defScope s__law_of) s.heap.objs.size f cdv)) → DSs (cxOf CX0 P w K mg base n__law_of "_law_of" (defScope s__law_of) f cdv A outer s H E).nox (defBody s__law_of) g__law_of :=
  fun f cdv A outer s H E hr => dss_one (ds_ret (de_if (dt_val (m := .al) (de_callB (m := .al) call_isi (ra_isT T.R.toRatK .int) rfl T.z_isinstance (by decide +kernel) (da_cons (de_var (pv 0)) (da_cons (de_ty rfl T.z_int (by decide +kernel)) da_nil)))) (de_tup (da_cons (de_var (pv 0)) (da_cons (de_int) (da_nil)))) (de_tup (da_cons (de_prop P_top T.R (hr.mono (by decide)) (de_var (pv 0))) (da_cons (de_prop P_bottom T.R (hr.mono (by decide)) (de_var (pv 0))) (da_nil))))))
theorem df__law_of (T : Tops P w K mg base) (F : Stands K mg "_law_of" s__law_of) (P_top : Prp P w K mg base "top" 1 d_Rt_top) (P_bottom : Prp P w K mg base "bottom" 1 d_Rt_bottom) : Dfn P w K mg base "_law_of" 3 ["number"] false d__law_of :=
  dfn (g := g__law_of) F sc__law_of (by decide) (fun _ _ _ _ _ _ us hl => match us, hl with | [_], _ => rfl) (bd__law_of T P_top P_bottom)

/-! ### _law_less -/
abbrev s__law_less : Stmt := topS 60
abbrev n__law_less : List Str := ["row", "key", "place", "by", "one", "other"]
theorem sc__law_less : FnScope n__law_less ["row", "key", "place"] (defScope s__law_less) := ⟨rfl, rfl, rfl, by decide +kernel, rfl, by decide +kernel, by decide +kernel⟩
noncomputable def g__law_less : SF := dSeq (dAsg (dCall d__law_frac (dCons (dBin gSub (dK (.int 0)) (dBin gMul (dBin gIx (dBin gIx (dVar 0) (dVar 2)) (dK (.int 0))) (dBin gIx (dBin gIx (dVar 1) (dVar 2)) (dK (.int 1))))) (dCons (dBin gMul (dBin gIx (dBin gIx (dVar 0) (dVar 2)) (dK (.int 1))) (dApp gAbs (dCons (dBin gIx (dBin gIx (dVar 1) (dVar 2)) (dK (.int 0))) (dNil)))) (dNil)))) (tgName .al 3)) (dSeq (dAsg (dIf (bOf (dBin gGt (dBin gIx (dBin gIx (dVar 1) (dVar 2)) (dK (.int 0))) (dK (.int 0)))) (dVar 3) (dTup (dCons (dBin gSub (dK (.int 0)) (dBin gIx (dVar 3) (dK (.int 0)))) (dCons (dBin gIx (dVar 3) (dK (.int 1))) (dNil))))) (tgName .al 3)) (dRet (eL (lComp [4, 5] (lZip (lOf (dVar 0)) (lOf (dVar 1))) (tgTup .al [4, 5]) (bTrue) (dCall d__law_plus (dCons (dVar 4) (dCons (dCall d__law_times (dCons (dVar 3) (dCons (dVar 5) (dNil)))) (dNil))))))))
noncomputable def d__law_less : PF := defD 3 n__law_less false g__law_less
theorem bd__law_less (T : Tops P w K mg base) (G__law_frac : Dfn P w K mg base "_law_frac" 1 ["above", "below"] false d__law_frac) (G__law_plus : Dfn P w K mg base "_law_plus" 2 ["a", "b"] false d__law_plus) (G__law_times : Dfn P w K mg base "_law_times" 2 ["a", "b"] false d__law_times) : ∀ (f : Addr) (cdv : Value) (A : Around) (outer : List PySem.Env) (s : Shared) (H : Hp) (E : XK), Room 2 (A.deeper (envOfC "_law_less" (defScope s__law_less) s.heap.objs.size f cdv)) → DSs (cxOf CX0 P w K mg base n__law_less "_law_less" (defScope s__law_less) f cdv A outer s H E).nox (defBody s__law_less) g__law_less :=
  fun f cdv A outer s H E hr => dss_cons (ds_set (i := 3) sc__law_less.nd rfl (.inr rfl) (de_f G__law_frac (hr.mono (by decide)) rfl (da_cons (de_op (m := .al) op_sub r2_sub (de_int) (de_op op_mulA r2_mul (de_ix ix_seq r2_ix (de_ix ix_seq r2_ix (de_var (pv 0)) (de_var (pv 2)) (fun _ _ => rfl)) (de_int) (fun _ _ => rfl)) (de_ix ix_seq r2_ix (de_ix ix_seq r2_ix (de_var (pv 1)) (de_var (pv 2)) (fun _ _ => rfl)) (de_int) (fun _ _ => rfl)))) (da_cons (de_op op_mulA r2_mul (de_ix ix_seq r2_ix (de_ix ix_seq r2_ix (de_var (pv 0)) (de_var (pv 2)) (fun _ _ => rfl)) (de_int) (fun _ _ => rfl)) (de_callB (m := .al) call_abs ra_abs rfl T.z_abs (by decide +kernel) (da_cons (de_ix ix_seq r2_ix (de_ix ix_seq r2_ix (de_var (pv 1)) (de_var (pv 2)) (fun _ _ => rfl)) (de_int) (fun _ _ => rfl)) (da_nil)))) (da_nil))))) (dss_cons (ds_set (i := 3) sc__law_less.nd rfl (.inr rfl) (de_if (dt_cmp (m := .al) (m' := .al) op_gt r2_rel (de_ix ix_seq r2_ix (de_ix ix_seq r2_ix (de_var (pv 1)) (de_var (pv 2)) (fun _ _ => rfl)) (de_int) (fun _ _ => rfl)) (de_int) (nomark _)) (de_var (pv 3)) (de_tup (da_cons (de_op (m := .al) op_sub r2_sub (de_int) (de_ix ix_seq r2_ix (de_var (pv 3)) (de_int) (fun _ _ => rfl))) (da_cons (de_ix ix_seq r2_ix (de_var (pv 3)) (de_int) (fun _ _ => rfl)) (da_nil)))))) (dss_one (ds_ret (de_new (dn_comp (own := [("one", 4), ("other", 5)]) (sf := false) rfl sc__law_less.nd (di_zip rfl T.z_zip (dsrc (de_var (pv 0))) (dsrc (de_var (pv 1)))) (blkOk_by (N := n__law_less) (sc := defScope s__law_less) (by decide +kernel)) (fun _ _ _ _ _ => dg_tup rfl (dgs_cons (pg_name (i := 4) sc__law_less.nd rfl (.inl rfl)) (dgs_cons (pg_name (i := 5) sc__law_less.nd rfl (.inl rfl)) (dgs_nil)))) (fun _ _ _ _ _ => dts_nil) (fun _ _ _ _ _ => de_f G__law_plus (hr.mono (by decide)) rfl (da_cons (de_var (pv 4)) (da_cons (de_f G__law_times (hr.mono (by decide)) rfl (da_cons (de_var (pv 3)) (da_cons (de_var (pv 5)) (da_nil)))) (da_nil)))) tgOk_tup (by decide))))))
theorem df__law_less (T : Tops P w K mg base) (F : Stands K mg "_law_less" s__law_less) (G__law_frac : Dfn P w K mg base "_law_frac" 1 ["above", "below"] false d__law_frac) (G__law_plus : Dfn P w K mg base "_law_plus" 2 ["a", "b"] false d__law_plus) (G__law_times : Dfn P w K mg base "_law_times" 2 ["a", "b"] false d__law_times) : Dfn P w K mg base "_law_less" 3 ["row", "key", "place"] false d__law_less :=
  dfn (g := g__law_less) F sc__law_less (by decide) (fun _ _ _ _ _ _ us hl => match us, hl with | [_, _, _], _ => rfl) (bd__law_less T G__law_frac G__law_plus G__law_times)

/-! ### _law_put_out -/
abbrev s__law_put_out : Stmt := topS 61
abbrev n__law_put_out : List Str := ["rows", "place", "left", "found", "heads", "key", "row", "at"]
theorem sc__law_put_out : FnScope n__law_put_out ["rows"] (defScope s__law_put_out) := ⟨rfl, rfl, rfl, by decide +kernel, rfl, by decide +kernel, by decide +kernel⟩
noncomputable def g__law_put_out : SF := dSeq (dParO 2 3 (eL (lComp [6] (lOf (dVar 0)) (tgName .al 6) (bTrue) (eL (lList (dVar 6))))) (lLst (dNil))) (dSeq (dFor (lRange1 (dCons (dIf (bOf (dBin gNe (dVar 0) (dLst (dNil)))) (dApp gLen (dCons (dBin gIx (dVar 0) (dK (.int 0))) (dNil))) (dK (.int 0))) (dNil))) (tgName .al 1) (dSeq (dAsg (eL (lComp [7, 6] (lEnum (lOf (dVar 2))) (tgTup .al [7, 6]) (bOf (dBin gNe (dBin gIx (dBin gIx (dVar 6) (dVar 1)) (dK (.int 0))) (dK (.int 0)))) (dVar 7))) (tgName .al 4)) (dIte (bOf (dBin gNe (dVar 4) (dLst (dNil)))) (dSeq (dAsg (dBin gIx (dVar 2) (dBin gIx (dVar 4) (dK (.int 0)))) (tgName .al 5)) (dSeq (dAppend 3 (dVar 5)) (dAsg (eL (lComp [7, 6] (lEnum (lOf (dVar 2))) (tgTup .al [7, 6]) (bOf (dBin gNe (dVar 7) (dBin gIx (dVar 4) (dK (.int 0))))) (dCall d__law_less (dCons (dVar 6) (dCons (dVar 5) (dCons (dVar 1) (dNil))))))) (tgName .al 2)))) (dNext)))) (fun ρ p => (dRet (dVar 3)) (rel 3 ρ) p))
noncomputable def d__law_put_out : PF := defD 1 n__law_put_out false g__law_put_out
theorem bd__law_put_out (T : Tops P w K mg base) (G__law_less : Dfn P w K mg base "_law_less" 3 ["row", "key", "place"] false d__law_less) : ∀ (f : Addr) (cdv : Value) (A : Around) (outer : List PySem.Env) (s : Shared) (H : Hp) (E : XK), Room 3 (A.deeper (envOfC "_law_put_out" (defScope s__law_put_out) s.heap.objs.size f cdv)) → DSs (cxOf CX0 P w K mg base n__law_put_out "_law_put_out" (defScope s__law_put_out) f cdv A outer s H E).nox (defBody s__law_put_out) g__law_put_out :=
  fun f cdv A outer s H E hr => dss_cons (ds_parO rfl sc__law_put_out.nd rfl rfl (by decide) rfl rfl (de_new (dn_comp (own := [("row", 6)]) (sf := false) rfl sc__law_put_out.nd (di_list (dsrc (de_var (pv 0)))) (blkOk_by (N := n__law_put_out) (sc := defScope s__law_put_out) (by decide +kernel)) (fun _ _ _ _ _ => dg_name (pg_name (i := 6) sc__law_put_out.nd rfl (.inl rfl))) (fun _ _ _ _ _ => dts_nil) (fun _ _ _ _ _ => de_new (dn_list rfl T.z_list boot_list (de_var (pv 6)))) tgOk_name (by decide))) (dn_lst (da_nil)) rfl) (dss_cons (ds_for PassesOwn.never rfl (di_range1 (m' := .al) rfl T.z_range (da_cons (de_if (dt_cmp (m := .al) (m' := .al) (op_neD hr.units) r2_ne (de_var (pv 0)) (de_lst (da_nil)) (nomark _)) (de_callB (m := .al) call_len_seq ra_len rfl T.z_len PySem.boot_len (da_cons (de_ix ix_seq r2_ix (de_var (pv 0)) (de_int) (fun _ _ => rfl)) (da_nil))) (de_int)) (da_nil))) (dg_name (pg_name (i := 1) sc__law_put_out.nd rfl (.inr rfl))) (dss_cons (ds_set (i := 4) sc__law_put_out.nd rfl (.inr rfl) (de_new (dn_comp (own := [("at", 7), ("row", 6)]) (sf := false) rfl sc__law_put_out.nd (di_enum rfl T.z_enumerate (dsrc (de_var (pv 2)))) (blkOk_by (N := n__law_put_out) (sc := defScope s__law_put_out) (by decide +kernel)) (fun _ _ _ _ _ => dg_tup rfl (dgs_cons (pg_name (i := 7) sc__law_put_out.nd rfl (.inl rfl)) (dgs_cons (pg_name (i := 6) sc__law_put_out.nd rfl (.inl rfl)) (dgs_nil)))) (fun _ _ _ _ _ => dts_one (dt_cmp (m := .al) (m' := .al) (op_neD hr.units) r2_ne (de_ix ix_seq r2_ix (de_ix ix_seq r2_ix (de_var (pv 6)) (de_var (pv 1)) (fun _ _ => rfl)) (de_int) (fun _ _ => rfl)) (de_int) (nomark _))) (fun _ _ _ _ _ => de_var (pv 7)) tgOk_tup (by decide)))) (dss_one (ds_if (dt_cmp (m := .al) (m' := .al) (op_neD hr.units) r2_ne (de_var (pv 4)) (de_lst (da_nil)) (nomark _)) (dss_cons (ds_set (i := 5) sc__law_put_out.nd rfl (.inr rfl) (de_ix ix_seq r2_ix (de_var (pv 2)) (de_ix ix_seq r2_ix (de_var (pv 4)) (de_int) (fun _ _ => rfl)) (fun _ _ => rfl))) (dss_cons (ds_append (pv 3) (de_var (pv 5))) (dss_one (ds_setC (i := 2) (own := [("at", 7), ("row", 6)]) (sf := false) rfl sc__law_put_out.nd rfl rfl (sw_true rfl rfl rfl (by decide +kernel)) (di_enum rfl T.z_enumerate (dsrc (de_var (pv 2)))) (blkOk_by (N := n__law_put_out) (sc := defScope s__law_put_out) (by decide +kernel)) (fun _ _ _ _ _ => dg_tup rfl (dgs_cons (pg_name (i := 7) sc__law_put_out.nd rfl (.inl rfl)) (dgs_cons (pg_name (i := 6) sc__law_put_out.nd rfl (.inl rfl)) (dgs_nil)))) (fun _ _ _ _ _ => dts_one (dt_cmp (m := .al) (m' := .al) (op_neD hr.units) r2_ne (de_var (pv 7)) (de_ix ix_seq r2_ix (de_var (pv 4)) (de_int) (fun _ _ => rfl)) (nomark _))) (fun _ _ _ _ _ => de_f G__law_less (hr.mono (by decide)) rfl (da_cons (de_var (pv 6)) (da_cons (de_var (pv 5)) (da_cons (de_var (pv 1)) (da_nil))))) tgOk_tup (by decide))))) (dss_nil))))) (dss_rel 3 (dss_one (ds_ret (de_var (pv 3))))))
theorem df__law_put_out (T : Tops P w K mg base) (F : Stands K mg "_law_put_out" s__law_put_out) (G__law_less : Dfn P w K mg base "_law_less" 3 ["row", "key", "place"] false d__law_less) : Dfn P w K mg base "_law_put_out" 4 ["rows"] false d__law_put_out :=
  dfn (g := g__law_put_out) F sc__law_put_out (by decide) (fun _ _ _ _ _ _ us hl => match us, hl with | [_], _ => rfl) (bd__law_put_out T G__law_less)

/-! ### _law_rank -/
abbrev s__law_rank : Stmt := topS 62
abbrev n__law_rank : List Str := ["rows"]
theorem sc__law_rank : FnScope n__law_rank ["rows"] (defScope s__law_rank) := ⟨rfl, rfl, rfl, by decide +kernel, rfl, by decide +kernel, by decide +kernel⟩
noncomputable def g__law_rank : SF := dRet (dApp gLen (dCons (dCall d__law_put_out (dCons (dVar 0) (dNil))) (dNil)))
noncomputable def d__law_rank : PF := defD 1 n__law_rank false g__law_rank
theorem bd__law_rank (T : Tops P w K mg base) (G__law_put_out : Dfn P w K mg base "_law_put_out" 4 ["rows"] false d__law_put_out) : ∀ (f : Addr) (cdv : Value) (A : Around) (outer : List PySem.Env) (s : Shared) (H : Hp) (E : XK), Room 4 (A.deeper (envOfC "_law_rank" (defScope s__law_rank) s.heap.objs.size f cdv)) → DSs (cxOf CX0 P w K mg base n__law_rank "_law_rank" (defScope s__law_rank) f cdv A outer s H E).nox (defBody s__law_rank) g__law_rank :=
  fun f cdv A outer s H E hr => dss_one (ds_ret (de_callB (m := .al) call_len_seq ra_len rfl T.z_len PySem.boot_len (da_cons (de_f G__law_put_out (hr.mono (by decide)) rfl (da_cons (de_var (pv 0)) (da_nil))) (da_nil))))
theorem df__law_rank (T : Tops P w K mg base) (F : Stands K mg "_law_rank" s__law_rank) (G__law_put_out : Dfn P w K mg base "_law_put_out" 4 ["rows"] false d__law_put_out) : Dfn P w K mg base "_law_rank" 5 ["rows"] false d__law_rank :=
  dfn (g := g__law_rank) F sc__law_rank (by decide) (fun _ _ _ _ _ _ us hl => match us, hl with | [_], _ => rfl) (bd__law_rank T G__law_put_out)

/-! ### _law_lists -/
abbrev s__law_lists : Stmt := topS 63
abbrev n__law_lists : List Str := ["pot", "most", "rows", "turn", "order", "wide", "top", "row", "way", "one", "other", "place", "number", "near", "far"]
theorem sc__law_lists : FnScope n__law_lists ["pot", "most"] (defScope s__law_lists) := ⟨rfl, rfl, rfl, by decide +kernel, rfl, by decide +kernel, by decide +kernel⟩
noncomputable def g__law_lists : SF := dSeq (dAsg (dTup (dCons (dBin gAdd (dK (.int 1)) (dCall d__law_draw (dCons (dVar 0) (dCons (dK (.int 4)) (dNil))))) (dCons (dPick 8329 (dVar 0) (lLst (dCons (dK (.int 1)) (dCons (dK (.int 2)) (dCons (dK (.int 5)) (dNil)))))) (dNil)))) (tgTup .al [5, 6])) (dSeq (dOwn (lLst (dCons (eL (lComp [11] (lRange1 (dCons (dVar 5) (dNil))) (tgName .al 11) (bTrue) (dBin gSub (dCall d__law_draw (dCons (dVar 0) (dCons (dBin gAdd (dBin gMul (dK (.int 2)) (dVar 6)) (dK (.int 1))) (dNil)))) (dVar 6)))) (dNil))) 2) (dSeq (dFor (lRange1 (dCons (dCall d__law_draw (dCons (dVar 0) (dCons (dVar 1) (dNil)))) (dNil))) (tgName .al 3) (dSeq (dPar3 8 9 10 (dCall d__law_draw (dCons (dVar 0) (dCons (dK (.int 6)) (dNil)))) (dPick 8329 (dVar 0) (lOwn 2)) (dPick 8329 (dVar 0) (lOwn 2))) (dSeq (dAsg (eL (lComp [11] (lRange1 (dCons (dVar 5) (dNil))) (tgName .al 11) (bTrue) (dBin gSub (dCall d__law_draw (dCons (dVar 0) (dCons (dBin gAdd (dBin gMul (dK (.int 2)) (dVar 6)) (dK (.int 1))) (dNil)))) (dVar 6)))) (tgName .al 7)) (dSeq (dIte (bOf (dBin gEq (dVar 8) (dK (.int 0)))) (dAsg (eL (lComp [12] (lOf (dVar 9)) (tgName .al 12) (bTrue) (dBin gMul (dVar 12) (dBin gAdd (dK (.int 2)) (dCall d__law_draw (dCons (dVar 0) (dCons (dK (.int 3)) (dNil)))))))) (tgName .al 7)) (dNext)) (dSeq (dIte (bOf (dBin gEq (dVar 8) (dK (.int 1)))) (dAsg (eL (lComp [13, 14] (lZip (lOf (dVar 9)) (lOf (dVar 10))) (tgTup .al [13, 14]) (bTrue) (dBin gAdd (dVar 13) (dVar 14)))) (tgName .al 7)) (dNext)) (dAppend 2 (dIf (bAnd (bOf (dBin gEq (dVar 8) (dK (.int 2)))) (bOf (dBin gEq (dCall d__law_draw (dCons (dVar 0) (dCons (dK (.int 3)) (dNil)))) (dK (.int 0))))) (dBin gMul (dLst (dCons (dK (.int 0)) (dNil))) (dVar 5)) (dVar 7)))))))) (dSeq (dIte (bOf (dApp gAll (dCons (eL (lComp [7] (lOwn 2) (tgName .al 7) (bTrue) (dBin gEq (dVar 7) (dBin gMul (dLst (dCons (dK (.int 0)) (dNil))) (dVar 5))))) (dNil)))) (dPut 2 (dK (.int 0)) (dBin gAdd (dLst (dCons (dK (.int 1)) (dNil))) (eL (lSl (lOf (dIxL (lOwn 2) (dK (.int 0)))) (oSome (dK (.int 1))) (oNone))))) (dNext)) (dSeq (dOwn (lLst (dNil)) 4) (dSeq (dFor (lRange1 (dCons (dLenL (lOwn 2)) (dNil))) (tgName .al 3) (dMove 4 2 (dCall d__law_draw (dCons (dVar 0) (dCons (dLenL (lOwn 2)) (dNil)))))) (fun ρ p => (dRet (dVar 4)) (rel 4 ρ) p))))))
noncomputable def d__law_lists : PF := defD 2 n__law_lists false g__law_lists
theorem bd__law_lists (T : Tops P w K mg base) (G__law_draw : Dfn P w K mg base "_law_draw" 1 ["pot", "many"] false d__law_draw) (PK : Pck P w K mg base 2 8329) : ∀ (f : Addr) (cdv : Value) (A : Around) (outer : List PySem.Env) (s : Shared) (H : Hp) (E : XK), Room 2 (A.deeper (envOfC "_law_lists" (defScope s__law_lists) s.heap.objs.size f cdv)) → DSs (cxOf CX0 P w K mg base n__law_lists "_law_lists" (defScope s__law_lists) f cdv A outer s H E).nox (defBody s__law_lists) g__law_lists :=
  fun f cdv A outer s H E hr => dss_cons (ds_asg (de_tup (da_cons (de_op op_addA r2_add (de_int) (de_f G__law_draw (hr.mono (by decide)) rfl (da_cons (de_var (pv 0)) (da_cons (de_int) (da_nil))))) (da_cons (de_pick (m' := .al) (sf := false) PK (hr.mono (by decide)) rfl (de_var (pv 0)) (DSrc.loose (dsrc_new (dn_lst (da_cons (de_int) (da_cons (de_int) (da_cons (de_int) (da_nil)))))))) (da_nil)))) (dg_tup rfl (dgs_cons (pg_name (i := 5) sc__law_lists.nd rfl (.inr rfl)) (dgs_cons (pg_name (i := 6) sc__law_lists.nd rfl (.inr rfl)) (dgs_nil))))) (dss_cons (ds_own (i := 2) sc__law_lists.nd rfl (.inl rfl) (dn_lst (da_cons (de_new (dn_comp (own := [("place", 11)]) (sf := false) rfl sc__law_lists.nd (di_range1 (m' := .al) rfl T.z_range (da_cons (de_var (pv 5)) (da_nil))) (blkOk_by (N := n__law_lists) (sc := defScope s__law_lists) (by decide +kernel)) (fun _ _ _ _ _ => dg_name (pg_name (i := 11) sc__law_lists.nd rfl (.inl rfl))) (fun _ _ _ _ _ => dts_nil) (fun _ _ _ _ _ => de_op (m := .al) op_sub r2_sub (de_f G__law_draw (hr.mono (by decide)) rfl (da_cons (de_var (pv 0)) (da_cons (de_op op_addA r2_add (de_op op_mulA r2_mul (de_int) (de_var (pv 6))) (de_int)) (da_nil)))) (de_var (pv 6))) tgOk_name (by decide))) (da_nil)))) (dss_cons (ds_for PassesOwn.never rfl (di_range1 (m' := .al) rfl T.z_range (da_cons (de_f G__law_draw (hr.mono (by decide)) rfl (da_cons (de_var (pv 0)) (da_cons (de_var (pv 1)) (da_nil)))) (da_nil))) (dg_name (pg_name (i := 3) sc__law_lists.nd rfl (.inl rfl))) (dss_cons (ds_par3 rfl sc__law_lists.nd rfl rfl rfl (by decide) (by decide) (by decide) rfl rfl rfl (de_f G__law_draw (hr.mono (by decide)) rfl (da_cons (de_var (pv 0)) (da_cons (de_int) (da_nil)))) (de_pick (m' := .al) (sf := false) PK (hr.mono (by decide)) rfl (de_var (pv 0)) (dsrc_own (pv 2))) (de_pick (m' := .al) (sf := false) PK (hr.mono (by decide)) rfl (de_var (pv 0)) (dsrc_own (pv 2))) rfl) (dss_cons (ds_setC (i := 7) (own := [("place", 11)]) (sf := false) rfl sc__law_lists.nd rfl rfl (sw_true rfl rfl rfl (by decide +kernel)) (di_range1 (m' := .al) rfl T.z_range (da_cons (de_var (pv 5)) (da_nil))) (blkOk_by (N := n__law_lists) (sc := defScope s__law_lists) (by decide +kernel)) (fun _ _ _ _ _ => dg_name (pg_name (i := 11) sc__law_lists.nd rfl (.inl rfl))) (fun _ _ _ _ _ => dts_nil) (fun _ _ _ _ _ => de_op (m := .al) op_sub r2_sub (de_f G__law_draw (hr.mono (by decide)) rfl (da_cons (de_var (pv 0)) (da_cons (de_op op_addA r2_add (de_op op_mulA r2_mul (de_int) (de_var (pv 6))) (de_int)) (da_nil)))) (de_var (pv 6))) tgOk_name (by decide)) (dss_cons (ds_if (dt_cmp (m := .al) (m' := .al) (op_eqD hr.units) r2_eq (de_var (pv 8)) (de_int) (nomark _)) (dss_one (ds_setC (i := 7) (own := [("number", 12)]) (sf := false) rfl sc__law_lists.nd rfl rfl (sw_true rfl rfl rfl (by decide +kernel)) (di_list (dsrc (de_var (pv 9)))) (blkOk_by (N := n__law_lists) (sc := defScope s__law_lists) (by decide +kernel)) (fun _ _ _ _ _ => dg_name (pg_name (i := 12) sc__law_lists.nd rfl (.inl rfl))) (fun _ _ _ _ _ => dts_nil) (fun _ _ _ _ _ => de_op op_mulA r2_mul (de_var (pv 12)) (de_op op_addA r2_add (de_int) (de_f G__law_draw (hr.mono (by decide)) rfl (da_cons (de_var (pv 0)) (da_cons (de_int) (da_nil)))))) tgOk_name (by decide))) (dss_nil)) (dss_cons (ds_if (dt_cmp (m := .al) (m' := .al) (op_eqD hr.units) r2_eq (de_var (pv 8)) (de_int) (nomark _)) (dss_one (ds_setC (i := 7) (own := [("near", 13), ("far", 14)]) (sf := false) rfl sc__law_lists.nd rfl rfl (sw_true rfl rfl rfl (by decide +kernel)) (di_zip rfl T.z_zip (dsrc (de_var (pv 9))) (dsrc (de_var (pv 10)))) (blkOk_by (N := n__law_lists) (sc := defScope s__law_lists) (by decide +kernel)) (fun _ _ _ _ _ => dg_tup rfl (dgs_cons (pg_name (i := 13) sc__law_lists.nd rfl (.inl rfl)) (dgs_cons (pg_name (i := 14) sc__law_lists.nd rfl (.inl rfl)) (dgs_nil)))) (fun _ _ _ _ _ => dts_nil) (fun _ _ _ _ _ => de_op op_addA r2_add (de_var (pv 13)) (de_var (pv 14))) tgOk_tup (by decide))) (dss_nil)) (dss_one (ds_append (pv 2) (de_if (dt_w (dw_and (dt_cmp (m := .al) (m' := .al) (op_eqD hr.units) r2_eq (de_var (pv 8)) (de_int) (nomark _)) (dw_and1 (dt_cmp (m := .al) (m' := .al) (op_eqD hr.units) r2_eq (de_f G__law_draw (hr.mono (by decide)) rfl (da_cons (de_var (pv 0)) (da_cons (de_int) (da_nil)))) (de_int) (nomark _))))) (de_op op_mulA r2_mul (de_lst (da_cons (de_int) (da_nil))) (de_var (pv 5))) (de_var (pv 7)))))))))) (dss_cons (ds_if (dt_val (m := .rd) (de_callB (m := .rd) (cr_all rfl) ra_all rfl T.z_all (by decide +kernel) (da_cons (de_new (dn_comp (own := [("row", 7)]) (sf := false) rfl sc__law_lists.nd (di_list (dsrc_own (pv 2))) (blkOk_by (N := n__law_lists) (sc := defScope s__law_lists) (by decide +kernel)) (fun _ _ _ _ _ => dg_name (pg_name (i := 7) sc__law_lists.nd rfl (.inl rfl))) (fun _ _ _ _ _ => dts_nil) (fun _ _ _ _ _ => de_cmp (m := .al) (op_eqD hr.units) r2_eq (de_var (pv 7)) (de_op op_mulA r2_mul (de_lst (da_cons (de_int) (da_nil))) (de_var (pv 5))) (nomark _)) tgOk_name (by decide))) (da_nil)))) (dss_one (ds_put (m := .al) (pv 2) (de_int) (de_op op_addA r2_add (de_lst (da_cons (de_int) (da_nil))) (de_new (dn_slice (sf := false) (dsrc (de_ixL (m' := .al) (dsrc_own (pv 2)) (de_int) (fun _ _ => rfl))) (do_some (m := .al) (de_int)) (do_none)))))) (dss_nil)) (dss_cons (ds_own (i := 4) sc__law_lists.nd rfl (.inl rfl) (dn_lst (da_nil))) (dss_cons (ds_for PassesOwn.never rfl (di_range1 (m' := .rd) rfl T.z_range (da_cons (de_lenL rfl T.z_len (dsrc_own (pv 2))) (da_nil))) (dg_name (pg_name (i := 3) sc__law_lists.nd rfl (.inl rfl))) (dss_one (ds_move (m := .rd) (pv 4) (pv 2) (de_f G__law_draw (hr.mono (by decide)) rfl (da_cons (de_var (pv 0)) (da_cons (de_lenL rfl T.z_len (dsrc_own (pv 2))) (da_nil))))))) (dss_rel 4 (dss_one (ds_ret (de_var (pv 4))))))))))
theorem df__law_lists (T : Tops P w K mg base) (F : Stands K mg "_law_lists" s__law_lists) (G__law_draw : Dfn P w K mg base "_law_draw" 1 ["pot", "many"] false d__law_draw) (PK : Pck P w K mg base 2 8329) : Dfn P w K mg base "_law_lists" 3 ["pot", "most"] false d__law_lists :=
  dfn (g := g__law_lists) F sc__law_lists (by decide) (fun _ _ _ _ _ _ us hl => match us, hl with | [_, _], _ => rfl) (bd__law_lists T G__law_draw PK)

/-! ### _law_plain -/
abbrev s__law_plain : Stmt := topS 64
abbrev n__law_plain : List Str := ["lists", "row", "number"]
theorem sc__law_plain : FnScope n__law_plain ["lists"] (defScope s__law_plain) := ⟨rfl, rfl, rfl, by decide +kernel, rfl, by decide +kernel, by decide +kernel⟩
noncomputable def g__law_plain : SF := dRet (eL (lComp [1] (lOf (dVar 0)) (tgName .al 1) (bTrue) (eL (lComp [2] (lOf (dVar 1)) (tgName .al 2) (bTrue) (dCall d__law_of (dCons (dVar 2) (dNil)))))))
noncomputable def d__law_plain : PF := defD 1 n__law_plain false g__law_plain
theorem bd__law_plain (T : Tops P w K mg base) (G__law_of : Dfn P w K mg base "_law_of" 3 ["number"] false d__law_of) : ∀ (f : Addr) (cdv : Value) (A : Around) (outer : List PySem.Env) (s : Shared) (H : Hp) (E : XK), Room 3 (A.deeper (envOfC "_law_plain" (defScope s__law_plain) s.heap.objs.size f cdv)) → DSs (cxOf CX0 P w K mg base n__law_plain "_law_plain" (defScope s__law_plain) f cdv A outer s H E).nox (defBody s__law_plain) g__law_plain :=
  fun f cdv A outer s H E hr => dss_one (ds_ret (de_new (dn_comp (own := [("row", 1)]) (sf := false) rfl sc__law_plain.nd (di_list (dsrc (de_var (pv 0)))) (blkOk_by (N := n__law_plain) (sc := defScope s__law_plain) (by decide +kernel)) (fun _ _ _ _ _ => dg_name (pg_name (i := 1) sc__law_plain.nd rfl (.inl rfl))) (fun _ _ _ _ _ => dts_nil) (fun _ _ _ _ _ => de_new (dn_comp (own := [("number", 2)]) (sf := false) rfl sc__law_plain.nd (di_list (dsrc (de_var (pv 1)))) (blkOk_by (N := n__law_plain) (sc := relS _ (defScope s__law_plain)) (by decide +kernel)) (fun _ _ _ _ _ => dg_name (pg_name (i := 2) sc__law_plain.nd rfl (.inl rfl))) (fun _ _ _ _ _ => dts_nil) (fun _ _ _ _ _ => de_f G__law_of (hr.mono (by decide)) rfl (da_cons (de_var (pv 2)) (da_nil))) tgOk_name (by decide))) tgOk_name (by decide))))
theorem df__law_plain (T : Tops P w K mg base) (F : Stands K mg "_law_plain" s__law_plain) (G__law_of : Dfn P w K mg base "_law_of" 3 ["number"] false d__law_of) : Dfn P w K mg base "_law_plain" 4 ["lists"] false d__law_plain :=
  dfn (g := g__law_plain) F sc__law_plain (by decide) (fun _ _ _ _ _ _ us hl => match us, hl with | [_], _ => rfl) (bd__law_plain T G__law_of)

/-! ### _law_weights -/
abbrev s__law_weights : Stmt := topS 65
abbrev n__law_weights : List Str := ["pot", "many", "top", "at"]
theorem sc__law_weights : FnScope n__law_weights ["pot", "many"] (defScope s__law_weights) := ⟨rfl, rfl, rfl, by decide +kernel, rfl, by decide +kernel, by decide +kernel⟩
noncomputable def g__law_weights : SF := dSeq (dAsg (dPick 8329 (dVar 0) (lLst (dCons (dK (.int 2)) (dCons (dK (.int 2)) (dCons (dK (.int 4)) (dCons (dK (.int 9)) (dNil))))))) (tgName .al 2)) (dRet (eL (lComp [3] (lRange1 (dCons (dVar 1) (dNil))) (tgName .al 3) (bTrue) (dPick 8329 (dVar 0) (lLst (dCons (dTup (dCons (dCall d__law_draw (dCons (dVar 0) (dCons (dVar 2) (dNil)))) (dCons (dK (.int 1)) (dNil)))) (dCons (dCall d__law_frac (dCons (dCall d__law_draw (dCons (dVar 0) (dCons (dVar 2) (dNil)))) (dCons (dBin gAdd (dK (.int 1)) (dCall d__law_draw (dCons (dVar 0) (dCons (dK (.int 3)) (dNil))))) (dNil)))) (dNil))))))))
noncomputable def d__law_weights : PF := defD 2 n__law_weights false g__law_weights
theorem bd__law_weights (T : Tops P w K mg base) (PK : Pck P w K mg base 2 8329) (G__law_draw : Dfn P w K mg base "_law_draw" 1 ["pot", "many"] false d__law_draw) (G__law_frac : Dfn P w K mg base "_law_frac" 1 ["above", "below"] false d__law_frac) : ∀ (f : Addr) (cdv : Value) (A : Around) (outer : List PySem.Env) (s : Shared) (H : Hp) (E : XK), Room 2 (A.deeper (envOfC "_law_weights" (defScope s__law_weights) s.heap.objs.size f cdv)) → DSs (cxOf CX0 P w K mg base n__law_weights "_law_weights" (defScope s__law_weights) f cdv A outer s H E).nox (defBody s__law_weights) g__law_weights :=
  fun f cdv A outer s H E hr => dss_cons (ds_set (i := 2) sc__law_weights.nd rfl (.inr rfl) (de_pick (m' := .al) (sf := false) PK (hr.mono (by decide)) rfl (de_var (pv 0)) (DSrc.loose (dsrc_new (dn_lst (da_cons (de_int) (da_cons (de_int) (da_cons (de_int) (da_cons (de_int) (da_nil)))))))))) (dss_one (ds_ret (de_new (dn_comp (own := [("at", 3)]) (sf := false) rfl sc__law_weights.nd (di_range1 (m' := .al) rfl T.z_range (da_cons (de_var (pv 1)) (da_nil))) (blkOk_by (N := n__law_weights) (sc := defScope s__law_weights) (by decide +kernel)) (fun _ _ _ _ _ => dg_name (pg_name (i := 3) sc__law_weights.nd rfl (.inl rfl))) (fun _ _ _ _ _ => dts_nil) (fun _ _ _ _ _ => de_pick (m' := .al) (sf := false) PK (hr.mono (by decide)) rfl (de_var (pv 0)) (DSrc.loose (dsrc_new (dn_lst (da_cons (de_tup (da_cons (de_f G__law_draw (hr.mono (by decide)) rfl (da_cons (de_var (pv 0)) (da_cons (de_var (pv 2)) (da_nil)))) (da_cons (de_int) (da_nil)))) (da_cons (de_f G__law_frac (hr.mono (by decide)) rfl (da_cons (de_f G__law_draw (hr.mono (by decide)) rfl (da_cons (de_var (pv 0)) (da_cons (de_var (pv 2)) (da_nil)))) (da_cons (de_op op_addA r2_add (de_int) (de_f G__law_draw (hr.mono (by decide)) rfl (da_cons (de_var (pv 0)) (da_cons (de_int) (da_nil))))) (da_nil)))) (da_nil))))))) tgOk_name (by decide)))))
theorem df__law_weights (T : Tops P w K mg base) (F : Stands K mg "_law_weights" s__law_weights) (PK : Pck P w K mg base 2 8329) (G__law_draw : Dfn P w K mg base "_law_draw" 1 ["pot", "many"] false d__law_draw) (G__law_frac : Dfn P w K mg base "_law_frac" 1 ["above", "below"] false d__law_frac) : Dfn P w K mg base "_law_weights" 3 ["pot", "many"] false d__law_weights :=
  dfn (g := g__law_weights) F sc__law_weights (by decide) (fun _ _ _ _ _ _ us hl => match us, hl with | [_, _], _ => rfl) (bd__law_weights T PK G__law_draw G__law_frac)

/-! ### _law_handed -/
abbrev s__law_handed : Stmt := topS 66
abbrev n__law_handed : List Str := ["weights", "one"]
theorem sc__law_handed : FnScope n__law_handed ["weights"] (defScope s__law_handed) := ⟨rfl, rfl, rfl, by decide +kernel, rfl, by decide +kernel, by decide +kernel⟩
noncomputable def g__law_handed : SF := dRet (eL (lComp [1] (lOf (dVar 0)) (tgName .al 1) (bTrue) (dIf (bOf (dBin gEq (dBin gIx (dVar 1) (dK (.int 1))) (dK (.int 1)))) (dBin gIx (dVar 1) (dK (.int 0))) (dCall d__law_ratio (dCons (dVar 1) (dNil))))))
noncomputable def d__law_handed : PF := defD 1 n__law_handed false g__law_handed
theorem bd__law_handed (T : Tops P w K mg base) (G__law_ratio : Dfn P w K mg base "_law_ratio" 4 ["a"] false d__law_ratio) : ∀ (f : Addr) (cdv : Value) (A : Around) (outer : List PySem.Env) (s : Shared) (H : Hp) (E : XK), Room 4 (A.deeper (envOfC "_law_handed" (defScope s__law_handed) s.heap.objs.size f cdv)) → DSs (cxOf CX0 P w K mg base n__law_handed "_law_handed" (defScope s__law_handed) f cdv A outer s H E).nox (defBody s__law_handed) g__law_handed :=
  fun f cdv A outer s H E hr => dss_one (ds_ret (de_new (dn_comp (own := [("one", 1)]) (sf := false) rfl sc__law_handed.nd (di_list (dsrc (de_var (pv 0)))) (blkOk_by (N := n__law_handed) (sc := defScope s__law_handed) (by decide +kernel)) (fun _ _ _ _ _ => dg_name (pg_name (i := 1) sc__law_handed.nd rfl (.inl rfl))) (fun _ _ _ _ _ => dts_nil) (fun _ _ _ _ _ => de_if (dt_cmp (m := .al) (m' := .al) (op_eqD hr.units) r2_eq (de_ix ix_seq r2_ix (de_var (pv 1)) (de_int) (fun _ _ => rfl)) (de_int) (nomark _)) (de_ix ix_seq r2_ix (de_var (pv 1)) (de_int) (fun _ _ => rfl)) (de_f G__law_ratio (hr.mono (by decide)) rfl (da_cons (de_var (pv 1)) (da_nil)))) tgOk_name (by decide))))
theorem df__law_handed (T : Tops P w K mg base) (F : Stands K mg "_law_handed" s__law_handed) (G__law_ratio : Dfn P w K mg base "_law_ratio" 4 ["a"] false d__law_ratio) : Dfn P w K mg base "_law_handed" 5 ["weights"] false d__law_handed :=
  dfn (g := g__law_handed) F sc__law_handed (by decide) (fun _ _ _ _ _ _ us hl => match us, hl with | [_], _ => rfl) (bd__law_handed T G__law_ratio)

/-! ### _law_lots -/
abbrev s__law_lots : Stmt := topS 67
abbrev n__law_lots : List Str := ["many", "found", "at", "lot"]
theorem sc__law_lots : FnScope n__law_lots ["many"] (defScope s__law_lots) := ⟨rfl, rfl, rfl, by decide +kernel, rfl, by decide +kernel, by decide +kernel⟩
noncomputable def g__law_lots : SF := dSeq (dOwn (lLst (dCons (dLst (dNil)) (dNil))) 1) (dSeq (dFor (lRange1 (dCons (dVar 0) (dNil))) (tgName .al 2) (dExtend 1 (lComp [3] (lOwn 1) (tgName .al 3) (bTrue) (dBin gAdd (dVar 3) (dLst (dCons (dVar 2) (dNil))))))) (fun ρ p => (dRet (dVar 1)) (rel 1 ρ) p))
noncomputable def d__law_lots : PF := defD 1 n__law_lots false g__law_lots
theorem bd__law_lots (T : Tops P w K mg base)  : ∀ (f : Addr) (cdv : Value) (A : Around) (outer : List PySem.Env) (s : Shared) (H : Hp) (E : XK), Room 0 (A.deeper (envOfC "_law_lots" (defScope s__law_lots) s.heap.objs.size f cdv)) → DSs (cxOf CX0 P w K mg base n__law_lots "_law_lots" (defScope s__law_lots) f cdv A outer s H E).nox (defBody s__law_lots) g__law_lots :=
  fun f cdv A outer s H E hr => dss_cons (ds_own (i := 1) sc__law_lots.nd rfl (.inl rfl) (dn_lst (da_cons (de_lst (da_nil)) (da_nil)))) (dss_cons (ds_for PassesOwn.never rfl (di_range1 (m' := .al) rfl T.z_range (da_cons (de_var (pv 0)) (da_nil))) (dg_name (pg_name (i := 2) sc__law_lots.nd rfl (.inr rfl))) (dss_one (ds_extend (sf := false) (pv 1) (DSrc.loose (dsrc_new (dn_comp (own := [("lot", 3)]) (sf := false) rfl sc__law_lots.nd (di_list (dsrc_own (pv 1))) (blkOk_by (N := n__law_lots) (sc := defScope s__law_lots) (by decide +kernel)) (fun _ _ _ _ _ => dg_name (pg_name (i := 3) sc__law_lots.nd rfl (.inl rfl))) (fun _ _ _ _ _ => dts_nil) (fun _ _ _ _ _ => de_op op_addA r2_add (de_var (pv 3)) (de_lst (da_cons (de_var (pv 2)) (da_nil)))) tgOk_name (by decide))))))) (dss_rel 1 (dss_one (ds_ret (de_var (pv 1))))))
theorem df__law_lots (T : Tops P w K mg base) (F : Stands K mg "_law_lots" s__law_lots)  : Dfn P w K mg base "_law_lots" 1 ["many"] false d__law_lots :=
  dfn (g := g__law_lots) F sc__law_lots (by decide) (fun _ _ _ _ _ _ us hl => match us, hl with | [_], _ => rfl) (bd__law_lots T )

/-! ### _law_lot_rank -/
abbrev s__law_lot_rank : Stmt := topS 68
abbrev n__law_lot_rank : List Str := ["rows", "lot", "at"]
theorem sc__law_lot_rank : FnScope n__law_lot_rank ["rows", "lot"] (defScope s__law_lot_rank) := ⟨rfl, rfl, rfl, by decide +kernel, rfl, by decide +kernel, by decide +kernel⟩
noncomputable def g__law_lot_rank : SF := dRet (dCall d__law_rank (dCons (eL (lComp [2] (lOf (dVar 1)) (tgName .al 2) (bTrue) (dBin gIx (dVar 0) (dVar 2)))) (dNil)))
noncomputable def d__law_lot_rank : PF := defD 2 n__law_lot_rank false g__law_lot_rank
theorem bd__law_lot_rank (T : Tops P w K mg base) (G__law_rank : Dfn P w K mg base "_law_rank" 5 ["rows"] false d__law_rank) : ∀ (f : Addr) (cdv : Value) (A : Around) (outer : List PySem.Env) (s : Shared) (H : Hp) (E : XK), Room 5 (A.deeper (envOfC "_law_lot_rank" (defScope s__law_lot_rank) s.heap.objs.size f cdv)) → DSs (cxOf CX0 P w K mg base n__law_lot_rank "_law_lot_rank" (defScope s__law_lot_rank) f cdv A outer s H E).nox (defBody s__law_lot_rank) g__law_lot_rank :=
  fun f cdv A outer s H E hr => dss_one (ds_ret (de_f G__law_rank (hr.mono (by decide)) rfl (da_cons (de_new (dn_comp (own := [("at", 2)]) (sf := false) rfl sc__law_lot_rank.nd (di_list (dsrc (de_var (pv 1)))) (blkOk_by (N := n__law_lot_rank) (sc := defScope s__law_lot_rank) (by decide +kernel)) (fun _ _ _ _ _ => dg_name (pg_name (i := 2) sc__law_lot_rank.nd rfl (.inl rfl))) (fun _ _ _ _ _ => dts_nil) (fun _ _ _ _ _ => de_ix ix_seq r2_ix (de_var (pv 0)) (de_var (pv 2)) (fun _ _ => rfl)) tgOk_name (by decide))) (da_nil))))
theorem df__law_lot_rank (T : Tops P w K mg base) (F : Stands K mg "_law_lot_rank" s__law_lot_rank) (G__law_rank : Dfn P w K mg base "_law_rank" 5 ["rows"] false d__law_rank) : Dfn P w K mg base "_law_lot_rank" 6 ["rows", "lot"] false d__law_lot_rank :=
  dfn (g := g__law_lot_rank) F sc__law_lot_rank (by decide) (fun _ _ _ _ _ _ us hl => match us, hl with | [_, _], _ => rfl) (bd__law_lot_rank T G__law_rank)

/-! ### _law_bases -/
abbrev s__law_bases : Stmt := topS 69
abbrev n__law_bases : List Str := ["rows", "full", "lot"]
theorem sc__law_bases : FnScope n__law_bases ["rows"] (defScope s__law_bases) := ⟨rfl, rfl, rfl, by decide +kernel, rfl, by decide +kernel, by decide +kernel⟩
noncomputable def g__law_bases : SF := dSeq (dAsg (dCall d__law_rank (dCons (dVar 0) (dNil))) (tgName .al 1)) (dRet (eL (lSorted (lComp [2] (lOf (dCall d__law_lots (dCons (dApp gLen (dCons (dVar 0) (dNil))) (dNil)))) (tgName .al 2) (bAnd (bOf (dBin gEq (dApp gLen (dCons (dVar 2) (dNil))) (dVar 1))) (bOf (dBin gEq (dCall d__law_lot_rank (dCons (dVar 0) (dCons (dVar 2) (dNil)))) (dVar 1)))) (dVar 2)))))
noncomputable def d__law_bases : PF := defD 1 n__law_bases false g__law_bases
theorem bd__law_bases (T : Tops P w K mg base) (G__law_rank : Dfn P w K mg base "_law_rank" 5 ["rows"] false d__law_rank) (G__law_lots : Dfn P w K mg base "_law_lots" 1 ["many"] false d__law_lots) (G__law_lot_rank : Dfn P w K mg base "_law_lot_rank" 6 ["rows", "lot"] false d__law_lot_rank) : ∀ (f : Addr) (cdv : Value) (A : Around) (outer : List PySem.Env) (s : Shared) (H : Hp) (E : XK), Room 6 (A.deeper (envOfC "_law_bases" (defScope s__law_bases) s.heap.objs.size f cdv)) → DSs (cxOf CX0 P w K mg base n__law_bases "_law_bases" (defScope s__law_bases) f cdv A outer s H E).nox (defBody s__law_bases) g__law_bases :=
  fun f cdv A outer s H E hr => dss_cons (ds_set (i := 1) sc__law_bases.nd rfl (.inr rfl) (de_f G__law_rank (hr.mono (by decide)) rfl (da_cons (de_var (pv 0)) (da_nil)))) (dss_one (ds_ret (de_new (dn_sorted (sf := false) hr.units rfl T.z_sorted (DSrc.loose (dsrc_new (dn_comp (own := [("lot", 2)]) (sf := false) rfl sc__law_bases.nd (di_list (dsrc (de_f G__law_lots (hr.mono (by decide)) rfl (da_cons (de_callB (m := .al) call_len_seq ra_len rfl T.z_len PySem.boot_len (da_cons (de_var (pv 0)) (da_nil))) (da_nil))))) (blkOk_by (N := n__law_bases) (sc := defScope s__law_bases) (by decide +kernel)) (fun _ _ _ _ _ => dg_name (pg_name (i := 2) sc__law_bases.nd rfl (.inl rfl))) (fun _ _ _ _ _ => dts_one (dt_w (dw_and (dt_cmp (m := .al) (m' := .al) (op_eqD hr.units) r2_eq (de_callB (m := .al) call_len_seq ra_len rfl T.z_len PySem.boot_len (da_cons (de_var (pv 2)) (da_nil))) (de_var (pv 1)) (nomark _)) (dw_and1 (dt_cmp (m := .al) (m' := .al) (op_eqD hr.units) r2_eq (de_f G__law_lot_rank (hr.mono (by decide)) rfl (da_cons (de_var (pv 0)) (da_cons (de_var (pv 2)) (da_nil)))) (de_var (pv 1)) (nomark _)))))) (fun _ _ _ _ _ => de_var (pv 2)) tgOk_name (by decide))))))))
theorem df__law_bases (T : Tops P w K mg base) (F : Stands K mg "_law_bases" s__law_bases) (G__law_rank : Dfn P w K mg base "_law_rank" 5 ["rows"] false d__law_rank) (G__law_lots : Dfn P w K mg base "_law_lots" 1 ["many"] false d__law_lots) (G__law_lot_rank : Dfn P w K mg base "_law_lot_rank" 6 ["rows", "lot"] false d__law_lot_rank) : Dfn P w K mg base "_law_bases" 7 ["rows"] false d__law_bases :=
  dfn (g := g__law_bases) F sc__law_bases (by decide) (fun _ _ _ _ _ _ us hl => match us, hl with | [_], _ => rfl) (bd__law_bases T G__law_rank G__law_lots G__law_lot_rank)

/-! ### _law_weight -/
abbrev s__law_weight : Stmt := topS 70
abbrev n__law_weight : List Str := ["weights", "lot", "at"]
theorem sc__law_weight : FnScope n__law_weight ["weights", "lot"] (defScope s__law_weight) := ⟨rfl, rfl, rfl, by decide +kernel, rfl, by decide +kernel, by decide +kernel⟩
noncomputable def g__law_weight : SF := dRet (dCall d__law_sum (dCons (eL (lComp [2] (lOf (dVar 1)) (tgName .al 2) (bTrue) (dBin gIx (dVar 0) (dVar 2)))) (dNil)))
noncomputable def d__law_weight : PF := defD 2 n__law_weight false g__law_weight
theorem bd__law_weight (T : Tops P w K mg base) (G__law_sum : Dfn P w K mg base "_law_sum" 3 ["some"] false d__law_sum) : ∀ (f : Addr) (cdv : Value) (A : Around) (outer : List PySem.Env) (s : Shared) (H : Hp) (E : XK), Room 3 (A.deeper (envOfC "_law_weight" (defScope s__law_weight) s.heap.objs.size f cdv)) → DSs (cxOf CX0 P w K mg base n__law_weight "_law_weight" (defScope s__law_weight) f cdv A outer s H E).nox (defBody s__law_weight) g__law_weight :=
  fun f cdv A outer s H E hr => dss_one (ds_ret (de_f G__law_sum (hr.mono (by decide)) rfl (da_cons (de_new (dn_comp (own := [("at", 2)]) (sf := false) rfl sc__law_weight.nd (di_list (dsrc (de_var (pv 1)))) (blkOk_by (N := n__law_weight) (sc := defScope s__law_weight) (by decide +kernel)) (fun _ _ _ _ _ => dg_name (pg_name (i := 2) sc__law_weight.nd rfl (.inl rfl))) (fun _ _ _ _ _ => dts_nil) (fun _ _ _ _ _ => de_ix ix_seq r2_ix (de_var (pv 0)) (de_var (pv 2)) (fun _ _ => rfl)) tgOk_name (by decide))) (da_nil))))
theorem df__law_weight (T : Tops P w K mg base) (F : Stands K mg "_law_weight" s__law_weight) (G__law_sum : Dfn P w K mg base "_law_sum" 3 ["some"] false d__law_sum) : Dfn P w K mg base "_law_weight" 4 ["weights", "lot"] false d__law_weight :=
  dfn (g := g__law_weight) F sc__law_weight (by decide) (fun _ _ _ _ _ _ us hl => match us, hl with | [_, _], _ => rfl) (bd__law_weight T G__law_sum)

/-! ### _law_excess -/
abbrev s__law_excess : Stmt := topS 71
abbrev n__law_excess : List Str := ["rows", "weights", "lot", "one"]
theorem sc__law_excess : FnScope n__law_excess ["rows", "weights", "lot"] (defScope s__law_excess) := ⟨rfl, rfl, rfl, by decide +kernel, rfl, by decide +kernel, by decide +kernel⟩
noncomputable def g__law_excess : SF := dSeq (dAsg (dCall d__law_times (dCons (dCall d__law_weight (dCons (dVar 1) (dCons (dVar 2) (dNil)))) (dCons (dTup (dCons (dCall d__law_rank (dCons (dVar 0) (dNil))) (dCons (dK (.int 1)) (dNil)))) (dNil)))) (tgName .al 3)) (dRet (dCall d__law_plus (dCons (dVar 3) (dCons (dCall d__law_times (dCons (dCall d__law_sum (dCons (dVar 1) (dNil))) (dCons (dTup (dCons (dBin gSub (dK (.int 0)) (dCall d__law_lot_rank (dCons (dVar 0) (dCons (dVar 2) (dNil))))) (dCons (dK (.int 1)) (dNil)))) (dNil)))) (dNil)))))
noncomputable def d__law_excess : PF := defD 3 n__law_excess false g__law_excess
theorem bd__law_excess (T : Tops P w K mg base) (G__law_times : Dfn P w K mg base "_law_times" 2 ["a", "b"] false d__law_times) (G__law_weight : Dfn P w K mg base "_law_weight" 4 ["weights", "lot"] false d__law_weight) (G__law_rank : Dfn P w K mg base "_law_rank" 5 ["rows"] false d__law_rank) (G__law_plus : Dfn P w K mg base "_law_plus" 2 ["a", "b"] false d__law_plus) (G__law_sum : Dfn P w K mg base "_law_sum" 3 ["some"] false d__law_sum) (G__law_lot_rank : Dfn P w K mg base "_law_lot_rank" 6 ["rows", "lot"] false d__law_lot_rank) : ∀ (f : Addr) (cdv : Value) (A : Around) (outer : List PySem.Env) (s : Shared) (H : Hp) (E : XK), Room 6 (A.deeper (envOfC "_law_excess" (defScope s__law_excess) s.heap.objs.size f cdv)) → DSs (cxOf CX0 P w K mg base n__law_excess "_law_excess" (defScope s__law_excess) f cdv A outer s H E).nox (defBody s__law_excess) g__law_excess :=
  fun f cdv A outer s H E hr => dss_cons (ds_set (i := 3) sc__law_excess.nd rfl (.inl rfl) (de_f G__law_times (hr.mono (by decide)) rfl (da_cons (de_f G__law_weight (hr.mono (by decide)) rfl (da_cons (de_var (pv 1)) (da_cons (de_var (pv 2)) (da_nil)))) (da_cons (de_tup (da_cons (de_f G__law_rank (hr.mono (by decide)) rfl (da_cons (de_var (pv 0)) (da_nil))) (da_cons (de_int) (da_nil)))) (da_nil))))) (dss_one (ds_ret (de_f G__law_plus (hr.mono (by decide)) rfl (da_cons (de_var (pv 3)) (da_cons (de_f G__law_times (hr.mono (by decide)) rfl (da_cons (de_f G__law_sum (hr.mono (by decide)) rfl (da_cons (de_var (pv 1)) (da_nil))) (da_cons (de_tup (da_cons (de_op (m := .al) op_sub r2_sub (de_int) (de_f G__law_lot_rank (hr.mono (by decide)) rfl (da_cons (de_var (pv 0)) (da_cons (de_var (pv 2)) (da_nil))))) (da_cons (de_int) (da_nil)))) (da_nil)))) (da_nil))))))
theorem df__law_excess (T : Tops P w K mg base) (F : Stands K mg "_law_excess" s__law_excess) (G__law_times : Dfn P w K mg base "_law_times" 2 ["a", "b"] false d__law_times) (G__law_weight : Dfn P w K mg base "_law_weight" 4 ["weights", "lot"] false d__law_weight) (G__law_rank : Dfn P w K mg base "_law_rank" 5 ["rows"] false d__law_rank) (G__law_plus : Dfn P w K mg base "_law_plus" 2 ["a", "b"] false d__law_plus) (G__law_sum : Dfn P w K mg base "_law_sum" 3 ["some"] false d__law_sum) (G__law_lot_rank : Dfn P w K mg base "_law_lot_rank" 6 ["rows", "lot"] false d__law_lot_rank) : Dfn P w K mg base "_law_excess" 7 ["rows", "weights", "lot"] false d__law_excess :=
  dfn (g := g__law_excess) F sc__law_excess (by decide) (fun _ _ _ _ _ _ us hl => match us, hl with | [_, _, _], _ => rfl) (bd__law_excess T G__law_times G__law_weight G__law_rank G__law_plus G__law_sum G__law_lot_rank)

/-! ### _law_is_lot -/
abbrev s__law_is_lot : Stmt := topS 72
abbrev n__law_is_lot : List Str := ["many", "value", "at"]
theorem sc__law_is_lot : FnScope n__law_is_lot ["many", "value"] (defScope s__law_is_lot) := ⟨rfl, rfl, rfl, by decide +kernel, rfl, by decide +kernel, by decide +kernel⟩
noncomputable def g__law_is_lot : SF := dSeq (dIte (bOr (bNot (bOf (dApp (gIsTT .list .tuple) (dCons (dVar 1) (dCons (dTup (dCons (dK (.ty "list")) (dCons (dK (.ty "tuple")) dNil))) dNil))))) (bNot (bOf (dApp gAll (dCons (eL (lComp [2] (lSeq (dVar 1)) (tgName .al 2) (bTrue) (dAnd (dApp (gIsT .int) (dCons (dVar 2) (dCons (dK (.ty "int")) dNil))) (dNot (dApp (gIsT .bool) (dCons (dVar 2) (dCons (dK (.ty "bool")) dNil))))))) (dNil)))))) (dRet (dK (.bl false))) (dNext)) (dRet (dAnd (dBin gEq (eL (lList (dVar 1))) (eL (lSortSetS (dVar 1)))) (dApp gAll (dCons (eL (lComp [2] (lSeq (dVar 1)) (tgName .al 2) (bTrue) (dChain gLe gLt (dK (.int 0)) (dVar 2) (dVar 0)))) (dNil)))))
noncomputable def d__law_is_lot : PF := defD 2 n__law_is_lot false g__law_is_lot
theorem bd__law_is_lot (T : Tops P w K mg base)  : ∀ (f : Addr) (cdv : Value) (A : Around) (outer : List PySem.Env) (s : Shared) (H : Hp) (E : XK), Room 0 (A.deeper (envOfC "_law_is_lot" (defScope s__law_is_lot) s.heap.objs.size f cdv)) → DSs (cxOf CX0 P w K mg base n__law_is_lot "_law_is_lot" (defScope s__law_is_lot) f cdv A outer s H E).nox (defBody s__law_is_lot) g__law_is_lot :=
  fun f cdv A outer s H E hr => dss_cons (ds_if (dt_w (dw_or (dt_not (dt_val (m := .al) (de_callB (m := .al) call_isiT (ra_isTT T.R.toRatK .list .tuple) rfl T.z_isinstance (by decide +kernel) (da_cons (de_var (pv 1)) (da_cons (de_tup (da_cons (de_ty rfl T.z_list (by decide +kernel)) (da_cons (de_ty rfl T.z_tuple (by decide +kernel)) da_nil))) da_nil))))) (dw_or1 (dt_not (dt_val (m := .al) (de_callB (m := .al) (cr_all rfl) ra_all rfl T.z_all (by decide +kernel) (da_cons (de_new (dn_comp (own := [("at", 2)]) (sf := false) rfl sc__law_is_lot.nd (di_seq (de_var (pv 1))) (blkOk_by (N := n__law_is_lot) (sc := defScope s__law_is_lot) (by decide +kernel)) (fun _ _ _ _ _ => dg_name (pg_name (i := 2) sc__law_is_lot.nd rfl (.inl rfl))) (fun _ _ _ _ _ => dts_nil) (fun _ _ _ _ _ => de_and (m' := .al) (de_callB (m := .al) call_isi (ra_isT T.R.toRatK .int) rfl T.z_isinstance (by decide +kernel) (da_cons (de_var (pv 2)) (da_cons (de_ty rfl T.z_int (by decide +kernel)) da_nil))) (de_one (de_not (m' := .al) (de_callB (m := .al) call_isi (ra_isT T.R.toRatK .bool) rfl T.z_isinstance (by decide +kernel) (da_cons (de_var (pv 2)) (da_cons (de_ty rfl T.z_bool (by decide +kernel)) da_nil)))))) tgOk_name (by decide))) (da_nil)))))))) (dss_one (ds_ret (de_bl))) (dss_nil)) (dss_one (ds_ret (de_and (m' := .al) (de_cmp (m := .al) (op_eqD hr.units) r2_eq (de_new (dn_list rfl T.z_list boot_list (de_var (pv 1)))) (de_new (dn_sortSetS (m' := .al) rfl rfl rfl T.z_sorted T.z_set (de_var (pv 1)))) (nomark _)) (de_one (de_callB (m := .al) (cr_all rfl) ra_all rfl T.z_all (by decide +kernel) (da_cons (de_new (dn_comp (own := [("at", 2)]) (sf := false) rfl sc__law_is_lot.nd (di_seq (de_var (pv 1))) (blkOk_by (N := n__law_is_lot) (sc := defScope s__law_is_lot) (by decide +kernel)) (fun _ _ _ _ _ => dg_name (pg_name (i := 2) sc__law_is_lot.nd rfl (.inl rfl))) (fun _ _ _ _ _ => dts_nil) (fun _ _ _ _ _ => de_chain (m := .al) (m1 := .al) op_le op_lt r2_rel r2_rel (de_int) (de_var (pv 2)) (de_var (pv 0))) tgOk_name (by decide))) (da_nil)))))))
theorem df__law_is_lot (T : Tops P w K mg base) (F : Stands K mg "_law_is_lot" s__law_is_lot)  : Dfn P w K mg base "_law_is_lot" 1 ["many", "value"] false d__law_is_lot :=
  dfn (g := g__law_is_lot) F sc__law_is_lot (by decide) (fun _ _ _ _ _ _ us hl => match us, hl with | [_, _], _ => rfl) (bd__law_is_lot T )

/-! ### _law_bent -/
abbrev s__law_bent : Stmt := topS 73
abbrev n__law_bent : List Str := ["pot", "value", "some", "at", "way"]
theorem sc__law_bent : FnScope n__law_bent ["pot", "value"] (defScope s__law_bent) := ⟨rfl, rfl, rfl, by decide +kernel, rfl, by decide +kernel, by decide +kernel⟩
noncomputable def g__law_bent (self_ : PF) : SF := dSeq (dIte (bAnd (bOf (dApp (gIsTT .tuple .list) (dCons (dVar 1) (dCons (dTup (dCons (dK (.ty "tuple")) (dCons (dK (.ty "list")) dNil))) dNil)))) (bAnd (bOf (dBin gGt (dApp gLen (dCons (dVar 1) (dNil))) (dK (.int 0)))) (bOf (dBin gGt (dCall d__law_draw (dCons (dVar 0) (dCons (dK (.int 7)) (dNil)))) (dK (.int 0)))))) (dSeq (dPar 3 4 (dCall d__law_draw (dCons (dVar 0) (dCons (dApp gLen (dCons (dVar 1) (dNil))) (dNil)))) (dCall d__law_draw (dCons (dVar 0) (dCons (dK (.int 9)) (dNil))))) (dSeq (dIte (bOf (dBin gEq (dVar 4) (dK (.int 0)))) (dRet (dBin gAddB (dSlG gSlA (dVar 1) (oNone) (oSome (dVar 3))) (dSlG gSlA (dVar 1) (oSome (dBin gAdd (dVar 3) (dK (.int 1)))) (oNone)))) (dNext)) (dSeq (dIte (bOf (dBin gEq (dVar 4) (dK (.int 1)))) (dRet (dBin gAddB (dSlG gSlA (dVar 1) (oNone) (oSome (dBin gAdd (dVar 3) (dK (.int 1))))) (dSlG gSlA (dVar 1) (oSome (dVar 3)) (oNone)))) (dNext)) (dSeq (dIte (bOf (dBin gEq (dVar 4) (dK (.int 2)))) (dRet (dBack (dVar 1))) (dNext)) (dSeq (dOwn (lList (dVar 1)) 2) (dSeq (dPut 2 (dVar 3) (dCall self_ (dCons (dVar 0) (dCons (dBin gIx (dVar 1) (dVar 3)) (dNil))))) (fun ρ p => (dRet (dIf (bOf (dApp (gIsT .list) (dCons (dVar 1) (dCons (dK (.ty "list")) dNil)))) (dVar 2) (dApp gTuple (dCons (dVar 2) (dNil))))) (rel 2 ρ) p))))))) (dNext)) (dSeq (dIte (bOf (dIsRat (dVar 1))) (dRet (dPick 8329 (dVar 0) (lLst (dCons (dBop d_Rt_add (dVar 1) (dK (.int 1))) (dCons (dBop d_Rt_sub (dVar 1) (dCall (fun a => mkRat (a ++ [])) (dCons (dK (.int 1)) (dCons (dK (.int 7)) (dNil))))) (dCons (dNegO d_Rt_neg (dVar 1)) (dCons (dCall (fun a => mkRat (a ++ [.int 1])) (dCons (dK (.int 0)) (dNil))) (dCons (dK (.int 0)) (dCons (dK .non) (dCons (dTup (dCons (dProp d_Rt_top (dVar 1)) (dCons (dProp d_Rt_bottom (dVar 1)) (dNil)))) (dNil))))))))))) (dNext)) (dSeq (dIte (bOf (dApp (gIsT .int) (dCons (dVar 1) (dCons (dK (.ty "int")) dNil)))) (dRet (dPick 8329 (dVar 0) (lLst (dCons (dBin gAdd (dVar 1) (dK (.int 1))) (dCons (dBin gSub (dVar 1) (dK (.int 1))) (dCons (dK (.bl true)) (dCons (dK .non) (dCons (dK (.int 0)) (dCons (dK (.int 1)) (dCons (dNeg (dK (.int 1))) (dNil))))))))))) (dNext)) (dRet (dPick 8329 (dVar 0) (lLst (dCons (dK .non) (dCons (dK (.int 0)) (dCons (dIf (bOf (dApp (gIsT .tuple) (dCons (dVar 1) (dCons (dK (.ty "tuple")) dNil)))) (eL (lList (dVar 1))) (dLst (dNil))) (dCons (dTup (dNil)) (dCons (dK (.str "x")) (dCons (dK .edict) (dNil))))))))))))
noncomputable def d__law_bent : Nat → PF
  | 0 => fun _ _ => none
  | n + 1 => defD 2 n__law_bent false (g__law_bent (d__law_bent n))
theorem bd__law_bent (T : Tops P w K mg base) (G__law_draw : Dfn P w K mg base "_law_draw" 1 ["pot", "many"] false d__law_draw) (B_add : Bop P w K mg base .Add 4 d_Rt_add) (MK : Mkr P w K mg base 2) (B_sub : Bop P w K mg base .Sub 4 d_Rt_sub) (U_neg : Neg P w K mg base 4 d_Rt_neg) (P_top : Prp P w K mg base "top" 1 d_Rt_top) (P_bottom : Prp P w K mg base "bottom" 1 d_Rt_bottom) (PK : Pck P w K mg base 2 8329) (n : Nat) (self_ : PF) (ih : Dfn P w K mg base "_law_bent" (4 + n) ["pot", "value"] false self_) : ∀ (f : Addr) (cdv : Value) (A : Around) (outer : List PySem.Env) (s : Shared) (H : Hp) (E : XK), Room (4 + n) (A.deeper (envOfC "_law_bent" (defScope s__law_bent) s.heap.objs.size f cdv)) → DSs (cxOf CX0 P w K mg base n__law_bent "_law_bent" (defScope s__law_bent) f cdv A outer s H E).nox (defBody s__law_bent) (g__law_bent self_) :=
  fun f cdv A outer s H E hr => dss_cons (ds_if (dt_w (dw_and (dt_val (m := .al) (de_callB (m := .al) call_isiT (ra_isTT T.R.toRatK .tuple .list) rfl T.z_isinstance (by decide +kernel) (da_cons (de_var (pv 1)) (da_cons (de_tup (da_cons (de_ty rfl T.z_tuple (by decide +kernel)) (da_cons (de_ty rfl T.z_list (by decide +kernel)) da_nil))) da_nil)))) (dw_and (dt_cmp (m := .al) (m' := .al) op_gt r2_rel (de_callB (m := .al) call_len_seq ra_len rfl T.z_len PySem.boot_len (da_cons (de_var (pv 1)) (da_nil))) (de_int) (nomark _)) (dw_and1 (dt_cmp (m := .al) (m' := .al) op_gt r2_rel (de_f G__law_draw (hr.mono (by omega)) rfl (da_cons (de_var (pv 0)) (da_cons (de_int) (da_nil)))) (de_int) (nomark _)))))) (dss_cons (ds_par rfl sc__law_bent.nd rfl rfl (by decide) rfl rfl (de_f G__law_draw (hr.mono (by omega)) rfl (da_cons (de_var (pv 0)) (da_cons (de_callB (m := .al) call_len_seq ra_len rfl T.z_len PySem.boot_len (da_cons (de_var (pv 1)) (da_nil))) (da_nil)))) (de_f G__law_draw (hr.mono (by omega)) rfl (da_cons (de_var (pv 0)) (da_cons (de_int) (da_nil)))) rfl) (dss_cons (ds_if (dt_cmp (m := .al) (m' := .al) (op_eqD hr.units) r2_eq (de_var (pv 4)) (de_int) (nomark _)) (dss_one (ds_ret (de_op op_addB r2_addB (de_slice sl_any sl_ok_any (de_var (pv 1)) (do_none) (do_some (m := .al) (de_var (pv 3)))) (de_slice sl_any sl_ok_any (de_var (pv 1)) (do_some (m := .al) (de_op op_addA r2_add (de_var (pv 3)) (de_int))) (do_none))))) (dss_nil)) (dss_cons (ds_if (dt_cmp (m := .al) (m' := .al) (op_eqD hr.units) r2_eq (de_var (pv 4)) (de_int) (nomark _)) (dss_one (ds_ret (de_op op_addB r2_addB (de_slice sl_any sl_ok_any (de_var (pv 1)) (do_none) (do_some (m := .al) (de_op op_addA r2_add (de_var (pv 3)) (de_int)))) (de_slice sl_any sl_ok_any (de_var (pv 1)) (do_some (m := .al) (de_var (pv 3))) (do_none))))) (dss_nil)) (dss_cons (ds_if (dt_cmp (m := .al) (m' := .al) (op_eqD hr.units) r2_eq (de_var (pv 4)) (de_int) (nomark _)) (dss_one (ds_ret (de_back (de_var (pv 1))))) (dss_nil)) (dss_cons (ds_own (i := 2) sc__law_bent.nd rfl (.inl rfl) (dn_list rfl T.z_list boot_list (de_var (pv 1)))) (dss_cons (ds_put (m := .al) (pv 2) (de_var (pv 3)) (de_f ih (hr.mono (by omega)) rfl (da_cons (de_var (pv 0)) (da_cons (de_ix ix_seq r2_ix (de_var (pv 1)) (de_var (pv 3)) (fun _ _ => rfl)) (da_nil))))) (dss_rel 2 (dss_one (ds_ret (de_if (dt_val (m := .al) (de_callB (m := .al) call_isi (ra_isT T.R.toRatK .list) rfl T.z_isinstance (by decide +kernel) (da_cons (de_var (pv 1)) (da_cons (de_ty rfl T.z_list (by decide +kernel)) da_nil)))) (de_var (pv 2)) (de_callTy call_tuple_of ra_tuple rfl T.z_tuple (by decide +kernel) (da_cons (de_var (pv 2)) (da_nil))))))))))))) (dss_nil)) (dss_cons (ds_if (dt_val (m := .al) (de_isRat (m := .al) T.R.toRatK rfl T.z_isinstance rfl T.m_Ratio (de_var (pv 1)))) (dss_one (ds_ret (de_pick (m' := .al) (sf := false) PK (hr.mono (by omega)) rfl (de_var (pv 0)) (DSrc.loose (dsrc_new (dn_lst (da_cons (de_bop B_add (hr.mono (by omega)) (de_var (pv 1)) (de_int)) (da_cons (de_bop B_sub (hr.mono (by omega)) (de_var (pv 1)) (de_mk2 (m := .al) MK (hr.mono (by omega)) rfl (da_cons (de_int) (da_cons (de_int) (da_nil))))) (da_cons (de_nego U_neg (hr.mono (by omega)) (de_var (pv 1))) (da_cons (de_mk1 (m := .al) MK (hr.mono (by omega)) rfl (da_cons (de_int) (da_nil))) (da_cons (de_int) (da_cons (de_non) (da_cons (de_tup (da_cons (de_prop P_top T.R (hr.mono (by omega)) (de_var (pv 1))) (da_cons (de_prop P_bottom T.R (hr.mono (by omega)) (de_var (pv 1))) (da_nil)))) (da_nil)))))))))))))) (dss_nil)) (dss_cons (ds_if (dt_val (m := .al) (de_callB (m := .al) call_isi (ra_isT T.R.toRatK .int) rfl T.z_isinstance (by decide +kernel) (da_cons (de_var (pv 1)) (da_cons (de_ty rfl T.z_int (by decide +kernel)) da_nil)))) (dss_one (ds_ret (de_pick (m' := .al) (sf := false) PK (hr.mono (by omega)) rfl (de_var (pv 0)) (DSrc.loose (dsrc_new (dn_lst (da_cons (de_op op_addA r2_add (de_var (pv 1)) (de_int)) (da_cons (de_op (m := .al) op_sub r2_sub (de_var (pv 1)) (de_int)) (da_cons (de_bl) (da_cons (de_non) (da_cons (de_int) (da_cons (de_int) (da_cons (de_neg (m := .al) (de_int)) (da_nil)))))))))))))) (dss_nil)) (dss_one (ds_ret (de_pick (m' := .al) (sf := false) PK (hr.mono (by omega)) rfl (de_var (pv 0)) (DSrc.loose (dsrc_new (dn_lst (da_cons (de_non) (da_cons (de_int) (da_cons (de_if (dt_val (m := .al) (de_callB (m := .al) call_isi (ra_isT T.R.toRatK .tuple) rfl T.z_isinstance (by decide +kernel) (da_cons (de_var (pv 1)) (da_cons (de_ty rfl T.z_tuple (by decide +kernel)) da_nil)))) (de_new (dn_list rfl T.z_list boot_list (de_var (pv 1)))) (de_lst (da_nil))) (da_cons (de_tup (da_nil)) (da_cons (de_str) (da_cons (de_edict) (da_nil)))))))))))))))
theorem dr__law_bent (T : Tops P w K mg base) (F : Stands K mg "_law_bent" s__law_bent) (G__law_draw : Dfn P w K mg base "_law_draw" 1 ["pot", "many"] false d__law_draw) (B_add : Bop P w K mg base .Add 4 d_Rt_add) (MK : Mkr P w K mg base 2) (B_sub : Bop P w K mg base .Sub 4 d_Rt_sub) (U_neg : Neg P w K mg base 4 d_Rt_neg) (P_top : Prp P w K mg base "top" 1 d_Rt_top) (P_bottom : Prp P w K mg base "bottom" 1 d_Rt_bottom) (PK : Pck P w K mg base 2 8329) : ∀ n, Dfn P w K mg base "_law_bent" (4 + n) ["pot", "value"] false (d__law_bent n)
  | 0 => dfn_none F (fun _ _ _ _ _ _ us hl => match us, hl with | [_, _], _ => rfl)
  | n + 1 => dfn (g := g__law_bent (d__law_bent n)) F sc__law_bent (by decide) (fun _ _ _ _ _ _ us hl => match us, hl with | [_, _], _ => rfl) (bd__law_bent T G__law_draw B_add MK B_sub U_neg P_top P_bottom PK n (d__law_bent n) (dr__law_bent T F G__law_draw B_add MK B_sub U_neg P_top P_bottom PK n))
theorem df__law_bent (T : Tops P w K mg base) (F : Stands K mg "_law_bent" s__law_bent) (G__law_draw : Dfn P w K mg base "_law_draw" 1 ["pot", "many"] false d__law_draw) (B_add : Bop P w K mg base .Add 4 d_Rt_add) (MK : Mkr P w K mg base 2) (B_sub : Bop P w K mg base .Sub 4 d_Rt_sub) (U_neg : Neg P w K mg base 4 d_Rt_neg) (P_top : Prp P w K mg base "top" 1 d_Rt_top) (P_bottom : Prp P w K mg base "bottom" 1 d_Rt_bottom) (PK : Pck P w K mg base 2 8329) : Dfn P w K mg base "_law_bent" 12 ["pot", "value"] false (d__law_bent 8) := dr__law_bent T F G__law_draw B_add MK B_sub U_neg P_top P_bottom PK 8

/-! ### _law_is_number -/
abbrev s__law_is_number : Stmt := topS 74
abbrev n__law_is_number : List Str := ["value"]
theorem sc__law_is_number : FnScope n__law_is_number ["value"] (defScope s__law_is_number) := ⟨rfl, rfl, rfl, by decide +kernel, rfl, by decide +kernel, by decide +kernel⟩
noncomputable def g__law_is_number : SF := dRet (dOr (dIsRat (dVar 0)) (dAnd (dApp (gIsT .int) (dCons (dVar 0) (dCons (dK (.ty "int")) dNil))) (dNot (dApp (gIsT .bool) (dCons (dVar 0) (dCons (dK (.ty "bool")) dNil))))))
noncomputable def d__law_is_number : PF := defD 1 n__law_is_number false g__law_is_number
theorem bd__law_is_number (T : Tops P w K mg base)  : ∀ (f : Addr) (cdv : Value) (A : Around) (outer : List PySem.Env) (s : Shared) (H : Hp) (E : XK), Room 0 (A.deeper (envOfC "_law_is_number" (defScope s__law_is_number) s.heap.objs.size f cdv)) → DSs (cxOf CX0 P w K mg base n__law_is_number "_law_is_number" (defScope s__law_is_number) f cdv A outer s H E).nox (defBody s__law_is_number) g__law_is_number :=
  fun f cdv A outer s H E hr => dss_one (ds_ret (de_or (m' := .al) (de_isRat (m := .al) T.R.toRatK rfl T.z_isinstance rfl T.m_Ratio (de_var (pv 0))) (de_one (de_and (m' := .al) (de_callB (m := .al) call_isi (ra_isT T.R.toRatK .int) rfl T.z_isinstance (by decide +kernel) (da_cons (de_var (pv 0)) (da_cons (de_ty rfl T.z_int (by decide +kernel)) da_nil))) (de_one (de_not (m' := .al) (de_callB (m := .al) call_isi (ra_isT T.R.toRatK .bool) rfl T.z_isinstance (by decide +kernel) (da_cons (de_var (pv 0)) (da_cons (de_ty rfl T.z_bool (by decide +kernel)) da_nil)))))))))
theorem df__law_is_number (T : Tops P w K mg base) (F : Stands K mg "_law_is_number" s__law_is_number)  : Dfn P w K mg base "_law_is_number" 1 ["value"] false d__law_is_number :=
  dfn (g := g__law_is_number) F sc__law_is_number (by decide) (fun _ _ _ _ _ _ us hl => match us, hl with | [_], _ => rfl) (bd__law_is_number T )

/-! ### _law_are_lists -/
abbrev s__law_are_lists : Stmt := topS 75
abbrev n__law_are_lists : List Str := ["value", "row", "number"]
theorem sc__law_are_lists : FnScope n__law_are_lists ["value"] (defScope s__law_are_lists) := ⟨rfl, rfl, rfl, by decide +kernel, rfl, by decide +kernel, by decide +kernel⟩
noncomputable def g__law_are_lists : SF := dSeq (dIte (bOr (bNot (bOf (dApp (gIsTT .list .tuple) (dCons (dVar 0) (dCons (dTup (dCons (dK (.ty "list")) (dCons (dK (.ty "tuple")) dNil))) dNil))))) (bNot (bOf (dChain gLe gLe (dK (.int 1)) (dApp gLen (dCons (dVar 0) (dNil))) (dK (.int 8)))))) (dRet (dK (.bl false))) (dNext)) (dSeq (dIte (bOr (bNot (bOf (dApp gAll (dCons (eL (lComp [1] (lSeq (dVar 0)) (tgName .al 1) (bTrue) (dAnd (dApp (gIsTT .list .tuple) (dCons (dVar 1) (dCons (dTup (dCons (dK (.ty "list")) (dCons (dK (.ty "tuple")) dNil))) dNil))) (dChain gLe gLe (dK (.int 1)) (dApp gLen (dCons (dVar 1) (dNil))) (dK (.int 4)))))) (dNil))))) (bOf (dBin gNe (dLenSet (lComp [1] (lSeq (dVar 0)) (tgName .al 1) (bTrue) (dApp gLen (dCons (dVar 1) (dNil))))) (dK (.int 1))))) (dRet (dK (.bl false))) (dNext)) (dSeq (dIte (bNot (bOf (dApp gAll (dCons (eL (lComp [1] (lSeq (dVar 0)) (tgName .al 1) (bTrue) (dApp gAll (dCons (eL (lComp [2] (lSeq (dVar 1)) (tgName .al 2) (bTrue) (dCall d__law_is_number (dCons (dVar 2) (dNil))))) (dNil))))) (dNil))))) (dRet (dK (.bl false))) (dNext)) (dRet (dApp gAny (dCons (eL (lComp [1] (lSeq (dVar 0)) (tgName .al 1) (bTrue) (dApp gAny (dCons (eL (lComp [2] (lSeq (dVar 1)) (tgName .al 2) (bTrue) (dBin gNe (dBin gIx (dCall d__law_of (dCons (dVar 2) (dNil))) (dK (.int 0))) (dK (.int 0))))) (dNil))))) (dNil))))))
noncomputable def d__law_are_lists : PF := defD 1 n__law_are_lists false g__law_are_lists
theorem bd__law_are_lists (T : Tops P w K mg base) (G__law_is_number : Dfn P w K mg base "_law_is_number" 1 ["value"] false d__law_is_number) (G__law_of : Dfn P w K mg base "_law_of" 3 ["number"] false d__law_of) : ∀ (f : Addr) (cdv : Value) (A : Around) (outer : List PySem.Env) (s : Shared) (H : Hp) (E : XK), Room 3 (A.deeper (envOfC "_law_are_lists" (defScope s__law_are_lists) s.heap.objs.size f cdv)) → DSs (cxOf CX0 P w K mg base n__law_are_lists "_law_are_lists" (defScope s__law_are_lists) f cdv A outer s H E).nox (defBody s__law_are_lists) g__law_are_lists :=
  fun f cdv A outer s H E hr => dss_cons (ds_if (dt_w (dw_or (dt_not (dt_val (m := .al) (de_callB (m := .al) call_isiT (ra_isTT T.R.toRatK .list .tuple) rfl T.z_isinstance (by decide +kernel) (da_cons (de_var (pv 0)) (da_cons (de_tup (da_cons (de_ty rfl T.z_list (by decide +kernel)) (da_cons (de_ty rfl T.z_tuple (by decide +kernel)) da_nil))) da_nil))))) (dw_or1 (dt_not (dt_chain (m' := .al) (m := .al) (m1 := .al) op_le op_le r2_rel r2_rel (de_int) (de_callB (m := .al) call_len_seq ra_len rfl T.z_len PySem.boot_len (da_cons (de_var (pv 0)) (da_nil))) (de_int)))))) (dss_one (ds_ret (de_bl))) (dss_nil)) (dss_cons (ds_if (dt_w (dw_or (dt_not (dt_val (m := .al) (de_callB (m := .al) (cr_all rfl) ra_all rfl T.z_all (by decide +kernel) (da_cons (de_new (dn_comp (own := [("row", 1)]) (sf := false) rfl sc__law_are_lists.nd (di_seq (de_var (pv 0))) (blkOk_by (N := n__law_are_lists) (sc := defScope s__law_are_lists) (by decide +kernel)) (fun _ _ _ _ _ => dg_name (pg_name (i := 1) sc__law_are_lists.nd rfl (.inl rfl))) (fun _ _ _ _ _ => dts_nil) (fun _ _ _ _ _ => de_and (m' := .al) (de_callB (m := .al) call_isiT (ra_isTT T.R.toRatK .list .tuple) rfl T.z_isinstance (by decide +kernel) (da_cons (de_var (pv 1)) (da_cons (de_tup (da_cons (de_ty rfl T.z_list (by decide +kernel)) (da_cons (de_ty rfl T.z_tuple (by decide +kernel)) da_nil))) da_nil))) (de_one (de_chain (m := .al) (m1 := .al) op_le op_le r2_rel r2_rel (de_int) (de_callB (m := .al) call_len_seq ra_len rfl T.z_len PySem.boot_len (da_cons (de_var (pv 1)) (da_nil))) (de_int)))) tgOk_name (by decide))) (da_nil))))) (dw_or1 (dt_cmp (m := .al) (m' := .al) (op_neD hr.units) r2_ne (de_lenSet (m' := .al) (sf := false) rfl rfl rfl T.z_len T.z_set (DSrc.loose (dsrc_new (dn_comp (own := [("row", 1)]) (sf := false) rfl sc__law_are_lists.nd (di_seq (de_var (pv 0))) (blkOk_by (N := n__law_are_lists) (sc := defScope s__law_are_lists) (by decide +kernel)) (fun _ _ _ _ _ => dg_name (pg_name (i := 1) sc__law_are_lists.nd rfl (.inl rfl))) (fun _ _ _ _ _ => dts_nil) (fun _ _ _ _ _ => de_callB (m := .al) call_len_seq ra_len rfl T.z_len PySem.boot_len (da_cons (de_var (pv 1)) (da_nil))) tgOk_name (by decide))))) (de_int) (nomark _))))) (dss_one (ds_ret (de_bl))) (dss_nil)) (dss_cons (ds_if (dt_not (dt_val (m := .al) (de_callB (m := .al) (cr_all rfl) ra_all rfl T.z_all (by decide +kernel) (da_cons (de_new (dn_comp (own := [("row", 1)]) (sf := false) rfl sc__law_are_lists.nd (di_seq (de_var (pv 0))) (blkOk_by (N := n__law_are_lists) (sc := defScope s__law_are_lists) (by decide +kernel)) (fun _ _ _ _ _ => dg_name (pg_name (i := 1) sc__law_are_lists.nd rfl (.inl rfl))) (fun _ _ _ _ _ => dts_nil) (fun _ _ _ _ _ => de_callB (m := .al) (cr_all rfl) ra_all rfl T.z_all (by decide +kernel) (da_cons (de_new (dn_comp (own := [("number", 2)]) (sf := false) rfl sc__law_are_lists.nd (di_seq (de_var (pv 1))) (blkOk_by (N := n__law_are_lists) (sc := relS _ (defScope s__law_are_lists)) (by decide +kernel)) (fun _ _ _ _ _ => dg_name (pg_name (i := 2) sc__law_are_lists.nd rfl (.inl rfl))) (fun _ _ _ _ _ => dts_nil) (fun _ _ _ _ _ => de_f G__law_is_number (hr.mono (by decide)) rfl (da_cons (de_var (pv 2)) (da_nil))) tgOk_name (by decide))) (da_nil))) tgOk_name (by decide))) (da_nil))))) (dss_one (ds_ret (de_bl))) (dss_nil)) (dss_one (ds_ret (de_callB (m := .al) (cr_any rfl) ra_any rfl T.z_any (by decide +kernel) (da_cons (de_new (dn_comp (own := [("row", 1)]) (sf := false) rfl sc__law_are_lists.nd (di_seq (de_var (pv 0))) (blkOk_by (N := n__law_are_lists) (sc := defScope s__law_are_lists) (by decide +kernel)) (fun _ _ _ _ _ => dg_name (pg_name (i := 1) sc__law_are_lists.nd rfl (.inl rfl))) (fun _ _ _ _ _ => dts_nil) (fun _ _ _ _ _ => de_callB (m := .al) (cr_any rfl) ra_any rfl T.z_any (by decide +kernel) (da_cons (de_new (dn_comp (own := [("number", 2)]) (sf := false) rfl sc__law_are_lists.nd (di_seq (de_var (pv 1))) (blkOk_by (N := n__law_are_lists) (sc := relS _ (defScope s__law_are_lists)) (by decide +kernel)) (fun _ _ _ _ _ => dg_name (pg_name (i := 2) sc__law_are_lists.nd rfl (.inl rfl))) (fun _ _ _ _ _ => dts_nil) (fun _ _ _ _ _ => de_cmp (m := .al) (op_neD hr.units) r2_ne (de_ix ix_seq r2_ix (de_f G__law_of (hr.mono (by decide)) rfl (da_cons (de_var (pv 2)) (da_nil))) (de_int) (fun _ _ => rfl)) (de_int) (nomark _)) tgOk_name (by decide))) (da_nil))) tgOk_name (by decide))) (da_nil)))))))
theorem df__law_are_lists (T : Tops P w K mg base) (F : Stands K mg "_law_are_lists" s__law_are_lists) (G__law_is_number : Dfn P w K mg base "_law_is_number" 1 ["value"] false d__law_is_number) (G__law_of : Dfn P w K mg base "_law_of" 3 ["number"] false d__law_of) : Dfn P w K mg base "_law_are_lists" 4 ["value"] false d__law_are_lists :=
  dfn (g := g__law_are_lists) F sc__law_are_lists (by decide) (fun _ _ _ _ _ _ us hl => match us, hl with | [_], _ => rfl) (bd__law_are_lists T G__law_is_number G__law_of)

/-! ### _law_are_weights -/
abbrev s__law_are_weights : Stmt := topS 76
abbrev n__law_are_weights : List Str := ["many", "value", "one"]
theorem sc__law_are_weights : FnScope n__law_are_weights ["many", "value"] (defScope s__law_are_weights) := ⟨rfl, rfl, rfl, by decide +kernel, rfl, by decide +kernel, by decide +kernel⟩
noncomputable def g__law_are_weights : SF := dSeq (dIte (bOr (bNot (bOf (dApp (gIsTT .list .tuple) (dCons (dVar 1) (dCons (dTup (dCons (dK (.ty "list")) (dCons (dK (.ty "tuple")) dNil))) dNil))))) (bOr (bOf (dBin gNe (dApp gLen (dCons (dVar 1) (dNil))) (dVar 0))) (bNot (bOf (dApp gAll (dCons (eL (lComp [2] (lSeq (dVar 1)) (tgName .al 2) (bTrue) (dCall d__law_is_number (dCons (dVar 2) (dNil))))) (dNil))))))) (dRet (dK (.bl false))) (dNext)) (dRet (dApp gAll (dCons (eL (lComp [2] (lSeq (dVar 1)) (tgName .al 2) (bTrue) (dBin gGe (dBin gIx (dCall d__law_of (dCons (dVar 2) (dNil))) (dK (.int 0))) (dK (.int 0))))) (dNil))))
noncomputable def d__law_are_weights : PF := defD 2 n__law_are_weights false g__law_are_weights
theorem bd__law_are_weights (T : Tops P w K mg base) (G__law_is_number : Dfn P w K mg base "_law_is_number" 1 ["value"] false d__law_is_number) (G__law_of : Dfn P w K mg base "_law_of" 3 ["number"] false d__law_of) : ∀ (f : Addr) (cdv : Value) (A : Around) (outer : List PySem.Env) (s : Shared) (H : Hp) (E : XK), Room 3 (A.deeper (envOfC "_law_are_weights" (defScope s__law_are_weights) s.heap.objs.size f cdv)) → DSs (cxOf CX0 P w K mg base n__law_are_weights "_law_are_weights" (defScope s__law_are_weights) f cdv A outer s H E).nox (defBody s__law_are_weights) g__law_are_weights :=
  fun f cdv A outer s H E hr => dss_cons (ds_if (dt_w (dw_or (dt_not (dt_val (m := .al) (de_callB (m := .al) call_isiT (ra_isTT T.R.toRatK .list .tuple) rfl T.z_isinstance (by decide +kernel) (da_cons (de_var (pv 1)) (da_cons (de_tup (da_cons (de_ty rfl T.z_list (by decide +kernel)) (da_cons (de_ty rfl T.z_tuple (by decide +kernel)) da_nil))) da_nil))))) (dw_or (dt_cmp (m := .al) (m' := .al) (op_neD hr.units) r2_ne (de_callB (m := .al) call_len_seq ra_len rfl T.z_len PySem.boot_len (da_cons (de_var (pv 1)) (da_nil))) (de_var (pv 0)) (nomark _)) (dw_or1 (dt_not (dt_val (m := .al) (de_callB (m := .al) (cr_all rfl) ra_all rfl T.z_all (by decide +kernel) (da_cons (de_new (dn_comp (own := [("one", 2)]) (sf := false) rfl sc__law_are_weights.nd (di_seq (de_var (pv 1))) (blkOk_by (N := n__law_are_weights) (sc := defScope s__law_are_weights) (by decide +kernel)) (fun _ _ _ _ _ => dg_name (pg_name (i := 2) sc__law_are_weights.nd rfl (.inl rfl))) (fun _ _ _ _ _ => dts_nil) (fun _ _ _ _ _ => de_f G__law_is_number (hr.mono (by decide)) rfl (da_cons (de_var (pv 2)) (da_nil))) tgOk_name (by decide))) (da_nil))))))))) (dss_one (ds_ret (de_bl))) (dss_nil)) (dss_one (ds_ret (de_callB (m := .al) (cr_all rfl) ra_all rfl T.z_all (by decide +kernel) (da_cons (de_new (dn_comp (own := [("one", 2)]) (sf := false) rfl sc__law_are_weights.nd (di_seq (de_var (pv 1))) (blkOk_by (N := n__law_are_weights) (sc := defScope s__law_are_weights) (by decide +kernel)) (fun _ _ _ _ _ => dg_name (pg_name (i := 2) sc__law_are_weights.nd rfl (.inl rfl))) (fun _ _ _ _ _ => dts_nil) (fun _ _ _ _ _ => de_cmp (m := .al) op_ge r2_rel (de_ix ix_seq r2_ix (de_f G__law_of (hr.mono (by decide)) rfl (da_cons (de_var (pv 2)) (da_nil))) (de_int) (fun _ _ => rfl)) (de_int) (nomark _)) tgOk_name (by decide))) (da_nil)))))
theorem df__law_are_weights (T : Tops P w K mg base) (F : Stands K mg "_law_are_weights" s__law_are_weights) (G__law_is_number : Dfn P w K mg base "_law_is_number" 1 ["value"] false d__law_is_number) (G__law_of : Dfn P w K mg base "_law_of" 3 ["number"] false d__law_of) : Dfn P w K mg base "_law_are_weights" 4 ["many", "value"] false d__law_are_weights :=
  dfn (g := g__law_are_weights) F sc__law_are_weights (by decide) (fun _ _ _ _ _ _ us hl => match us, hl with | [_, _], _ => rfl) (bd__law_are_weights T G__law_is_number G__law_of)

/-! ### _law_values_right -/
theorem wW_is_lists_0_value (T : Tops P w K mg base) (F : Stands K mg "is_lists" s_is_lists) (G_are_lists : Dfn P w K mg base "are_lists" 7 ["value"] false d_are_lists) : DfnW P w K mg base "is_lists" 8 ["value"] ["value"] 0 1 [0] false d_is_lists :=
  dfnW (g := g_is_lists) F sc_is_lists (by decide) (by decide) (fun _ _ _ _ _ _ us ws h1 h2 => match us, ws, h1, h2 with | [], [_], _, _ => rfl) (bd_is_lists T G_are_lists)
theorem wW_is_weights_0_value_lists (T : Tops P w K mg base) (F : Stands K mg "is_weights" s_is_weights) (G_are_weights : Dfn P w K mg base "are_weights" 6 ["many", "value"] false d_are_weights) (G_want_lists : Dfn P w K mg base "want_lists" 8 ["value"] true d_want_lists) : DfnW P w K mg base "is_weights" 9 ["lists", "value"] ["value", "lists"] 0 2 [1, 0] false d_is_weights :=
  dfnW (g := g_is_weights) F sc_is_weights (by decide) (by decide) (fun _ _ _ _ _ _ us ws h1 h2 => match us, ws, h1, h2 with | [], [_, _], _, _ => rfl) (bd_is_weights T G_are_weights G_want_lists)
theorem wW_is_lot_0_value_lists (T : Tops P w K mg base) (F : Stands K mg "is_lot" s_is_lot) (G_is_lot_of : Dfn P w K mg base "is_lot_of" 3 ["many", "value"] false d_is_lot_of) (G_want_lists : Dfn P w K mg base "want_lists" 8 ["value"] true d_want_lists) : DfnW P w K mg base "is_lot" 9 ["lists", "value"] ["value", "lists"] 0 2 [1, 0] false d_is_lot :=
  dfnW (g := g_is_lot) F sc_is_lot (by decide) (by decide) (fun _ _ _ _ _ _ us ws h1 h2 => match us, ws, h1, h2 with | [], [_, _], _, _ => rfl) (bd_is_lot T G_is_lot_of G_want_lists)
abbrev s__law_values_right : Stmt := topS 77
abbrev n__law_values_right : List Str := ["pot", "lists", "handed", "many", "values", "turn", "value", "due", "row"]
theorem sc__law_values_right : FnScope n__law_values_right ["pot", "lists", "handed"] (defScope s__law_values_right) := ⟨rfl, rfl, rfl, by decide +kernel, rfl, by decide +kernel, by decide +kernel⟩
noncomputable def g__law_values_right : SF := dSeq (dAsg (dApp gLen (dCons (dVar 1) (dNil))) (tgName .al 3)) (dSeq (dOwn (lLst (dCons (dVar 1) (dCons (dApp gTuple (dCons (eL (lComp [8] (lOf (dVar 1)) (tgName .al 8) (bTrue) (dApp gTuple (dCons (dVar 8) (dNil))))) (dNil))) (dCons (dBin gMul (dVar 1) (dK (.int 9))) (dCons (dLst (dCons (dBin gMul (dLst (dCons (dK (.int 0)) (dNil))) (dApp gLen (dCons (dBin gIx (dVar 1) (dK (.int 0))) (dNil)))) (dNil))) (dCons (dLst (dNil)) (dCons (dK .non) (dCons (dK (.int 0)) (dCons (dK (.str "l")) (dCons (dK .edict) (dCons (dLst (dCons (dLst (dNil)) (dNil))) (dCons (dBin gAdd (dVar 1) (dLst (dCons (dLst (dCons (dK (.int 1)) (dNil))) (dNil)))) (dCons (dBin gMul (dLst (dCons (dBin gIx (dVar 1) (dK (.int 0))) (dNil))) (dK (.int 8))) (dCons (dLst (dCons (dBin gMul (dLst (dCons (dK (.int 1)) (dNil))) (dK (.int 5))) (dNil))) (dNil))))))))))))))) 4) (dSeq (dFor (lRange1 (dCons (dK (.int 6)) (dNil))) (tgName .al 5) (dAppend 4 (dCall (d__law_bent 8) (dCons (dVar 0) (dCons (dVar 1) (dNil)))))) (fun ρ p => (dSeq (dFor (lOf (dVar 4)) (tgName .al 6) (dSeq (dAsg (dCall d__law_are_lists (dCons (dVar 6) (dNil))) (tgName .al 7)) (dIte (bOf (dBin gNe (dRepr d_Rt_repr (dLst (dCons (dCall d_is_lists (dCons (dVar 6) (dNil))) (dCons (dKw d_is_lists 0 1 [0] dNil (dCons (dVar 6) (dNil))) (dNil))))) (dRepr d_Rt_repr (dLst (dCons (dVar 7) (dCons (dVar 7) (dNil))))))) (dRet (dK (.bl false))) (dNext)))) (dSeq (dOwn (lLst (dCons (dVar 2) (dCons (dApp gTuple (dCons (dVar 2) (dNil))) (dCons (eL (lSl (lOf (dVar 2)) (oSome (dK (.int 1))) (oNone))) (dCons (dBin gAdd (dVar 2) (dLst (dCons (dK (.int 0)) (dNil)))) (dCons (dK .non) (dCons (dK (.int 0)) (dCons (dLst (dNil)) (dCons (dBin gMul (dLst (dCons (dNeg (dK (.int 1))) (dNil))) (dVar 3)) (dCons (dBin gMul (dLst (dCons (dK (.bl true)) (dNil))) (dVar 3)) (dCons (dBin gMul (dLst (dCons (dK .non) (dNil))) (dVar 3)) (dCons (dK .edict) (dCons (dK (.str "w")) (dNil)))))))))))))) 4) (dSeq (dFor (lRange1 (dCons (dK (.int 6)) (dNil))) (tgName .al 5) (dAppend 4 (dCall (d__law_bent 8) (dCons (dVar 0) (dCons (dVar 2) (dNil)))))) (fun ρ p => (dSeq (dFor (lOf (dVar 4)) (tgName .al 6) (dSeq (dAsg (dCall d__law_are_weights (dCons (dVar 3) (dCons (dVar 6) (dNil)))) (tgName .al 7)) (dIte (bOf (dBin gNe (dRepr d_Rt_repr (dLst (dCons (dCall d_is_weights (dCons (dVar 1) (dCons (dVar 6) (dNil)))) (dCons (dKw d_is_weights 0 2 [1, 0] dNil (dCons (dVar 6) (dCons (dVar 1) (dNil)))) (dNil))))) (dRepr d_Rt_repr (dLst (dCons (dVar 7) (dCons (dVar 7) (dNil))))))) (dRet (dK (.bl false))) (dNext)))) (dSeq (dOwn (lLst (dCons (dLst (dNil)) (dCons (dTup (dNil)) (dCons (dLst (dCons (dK (.int 0)) (dNil))) (dCons (dLst (dCons (dVar 3) (dNil))) (dCons (dLst (dCons (dBin gSub (dVar 3) (dK (.int 1))) (dNil))) (dCons (dLst (dCons (dK (.int 0)) (dCons (dK (.int 0)) (dNil)))) (dCons (dLst (dCons (dK (.int 1)) (dCons (dK (.int 0)) (dNil)))) (dCons (dLst (dCons (dK (.bl true)) (dNil))) (dCons (dLst (dCons (dK (.bl false)) (dNil))) (dCons (dLst (dCons (dK .non) (dNil))) (dCons (eL (lListRg (dVar 3))) (dCons (dLst (dCons (dNeg (dK (.int 1))) (dNil))) (dCons (dK .non) (dCons (dK (.int 0)) (dCons (dK (.str "0")) (dCons (dK .edict) (dNil)))))))))))))))))) 4) (fun ρ p => (dSeq (dFor (lOf (dVar 4)) (tgName .al 6) (dSeq (dAsg (dCall d__law_is_lot (dCons (dVar 3) (dCons (dVar 6) (dNil)))) (tgName .al 7)) (dIte (bOf (dBin gNe (dRepr d_Rt_repr (dLst (dCons (dCall d_is_lot (dCons (dVar 1) (dCons (dVar 6) (dNil)))) (dCons (dKw d_is_lot 0 2 [1, 0] dNil (dCons (dVar 6) (dCons (dVar 1) (dNil)))) (dNil))))) (dRepr d_Rt_repr (dLst (dCons (dVar 7) (dCons (dVar 7) (dNil))))))) (dRet (dK (.bl false))) (dNext)))) (dRet (dK (.bl true)))) (rel 4 ρ) p))) (rel 4 ρ) p)))) (rel 4 ρ) p)))
noncomputable def d__law_values_right : PF := defD 3 n__law_values_right false g__law_values_right
theorem bd__law_values_right (T : Tops P w K mg base) (G__law_bent : Dfn P w K mg base "_law_bent" 12 ["pot", "value"] false (d__law_bent 8)) (G__law_are_lists : Dfn P w K mg base "_law_are_lists" 4 ["value"] false d__law_are_lists) (G_is_lists : Dfn P w K mg base "is_lists" 8 ["value"] false d_is_lists) (W_is_lists_0_value : DfnW P w K mg base "is_lists" 8 ["value"] ["value"] 0 1 [0] false d_is_lists) (R_repr : Rpr P w K mg base 2 d_Rt_repr) (G__law_are_weights : Dfn P w K mg base "_law_are_weights" 4 ["many", "value"] false d__law_are_weights) (G_is_weights : Dfn P w K mg base "is_weights" 9 ["lists", "value"] false d_is_weights) (W_is_weights_0_value_lists : DfnW P w K mg base "is_weights" 9 ["lists", "value"] ["value", "lists"] 0 2 [1, 0] false d_is_weights) (G__law_is_lot : Dfn P w K mg base "_law_is_lot" 1 ["many", "value"] false d__law_is_lot) (G_is_lot : Dfn P w K mg base "is_lot" 9 ["lists", "value"] false d_is_lot) (W_is_lot_0_value_lists : DfnW P w K mg base "is_lot" 9 ["lists", "value"] ["value", "lists"] 0 2 [1, 0] false d_is_lot) : ∀ (f : Addr) (cdv : Value) (A : Around) (outer : List PySem.Env) (s : Shared) (H : Hp) (E : XK), Room 12 (A.deeper (envOfC "_law_values_right" (defScope s__law_values_right) s.heap.objs.size f cdv)) → (A.deeper (envOfC "_law_values_right" (defScope s__law_values_right) s.heap.objs.size f cdv)).guards = some [] → DSs (cxOf CX0 P w K mg base n__law_values_right "_law_values_right" (defScope s__law_values_right) f cdv A outer s H E).nox (defBody s__law_values_right) g__law_values_right :=
  fun f cdv A outer s H E hr hgd => dss_cons (ds_set (i := 3) sc__law_values_right.nd rfl (.inl rfl) (de_callB (m := .al) call_len_seq ra_len rfl T.z_len PySem.boot_len (da_cons (de_var (pv 1)) (da_nil)))) (dss_cons (ds_own (i := 4) sc__law_values_right.nd rfl (.inl rfl) (dn_lst (da_cons (de_var (pv 1)) (da_cons (de_callTy call_tuple_of ra_tuple rfl T.z_tuple (by decide +kernel) (da_cons (de_new (dn_comp (own := [("row", 8)]) (sf := false) rfl sc__law_values_right.nd (di_list (dsrc (de_var (pv 1)))) (blkOk_by (N := n__law_values_right) (sc := defScope s__law_values_right) (by decide +kernel)) (fun _ _ _ _ _ => dg_name (pg_name (i := 8) sc__law_values_right.nd rfl (.inl rfl))) (fun _ _ _ _ _ => dts_nil) (fun _ _ _ _ _ => de_callTy call_tuple_of ra_tuple rfl T.z_tuple (by decide +kernel) (da_cons (de_var (pv 8)) (da_nil))) tgOk_name (by decide))) (da_nil))) (da_cons (de_op op_mulA r2_mul (de_var (pv 1)) (de_int)) (da_cons (de_lst (da_cons (de_op op_mulA r2_mul (de_lst (da_cons (de_int) (da_nil))) (de_callB (m := .al) call_len_seq ra_len rfl T.z_len PySem.boot_len (da_cons (de_ix ix_seq r2_ix (de_var (pv 1)) (de_int) (fun _ _ => rfl)) (da_nil)))) (da_nil))) (da_cons (de_lst (da_nil)) (da_cons (de_non) (da_cons (de_int) (da_cons (de_str) (da_cons (de_edict) (da_cons (de_lst (da_cons (de_lst (da_nil)) (da_nil))) (da_cons (de_op op_addA r2_add (de_var (pv 1)) (de_lst (da_cons (de_lst (da_cons (de_int) (da_nil))) (da_nil)))) (da_cons (de_op op_mulA r2_mul (de_lst (da_cons (de_ix ix_seq r2_ix (de_var (pv 1)) (de_int) (fun _ _ => rfl)) (da_nil))) (de_int)) (da_cons (de_lst (da_cons (de_op op_mulA r2_mul (de_lst (da_cons (de_int) (da_nil))) (de_int)) (da_nil))) (da_nil)))))))))))))))) (dss_cons (ds_for PassesOwn.never rfl (di_range1 (m' := .al) rfl T.z_range (da_cons (de_int) (da_nil))) (dg_name (pg_name (i := 5) sc__law_values_right.nd rfl (.inl rfl))) (dss_one (ds_append (pv 4) (de_f G__law_bent (hr.mono (by decide)) rfl (da_cons (de_var (pv 0)) (da_cons (de_var (pv 1)) (da_nil))))))) (dss_rel 4 (dss_cons (ds_for PassesOwn.never rfl (di_list (dsrc (de_var (pv 4)))) (dg_name (pg_name (i := 6) sc__law_values_right.nd rfl (.inl rfl))) (dss_cons (ds_set (i := 7) sc__law_values_right.nd rfl (.inl rfl) (de_f G__law_are_lists (hr.mono (by decide)) rfl (da_cons (de_var (pv 6)) (da_nil)))) (dss_one (ds_if (dt_cmp (m := .al) (m' := .al) (op_neD hr.units) r2_ne (de_repr (m := .al) R_repr hgd (hr.mono (by decide)) rfl T.z_repr (de_lst (da_cons (de_f G_is_lists (hr.mono (by decide)) rfl (da_cons (de_var (pv 6)) (da_nil))) (da_cons (de_kw0N (m := .al) W_is_lists_0_value (hr.mono (by decide)) rfl (dk_cons (de_var (pv 6)) (dk_nil))) (da_nil))))) (de_repr (m := .al) R_repr hgd (hr.mono (by decide)) rfl T.z_repr (de_lst (da_cons (de_var (pv 7)) (da_cons (de_var (pv 7)) (da_nil))))) (nomark _)) (dss_one (ds_ret (de_bl))) (dss_nil))))) (dss_cons (ds_own (i := 4) sc__law_values_right.nd rfl (.inl rfl) (dn_lst (da_cons (de_var (pv 2)) (da_cons (de_callTy call_tuple_of ra_tuple rfl T.z_tuple (by decide +kernel) (da_cons (de_var (pv 2)) (da_nil))) (da_cons (de_new (dn_slice (sf := false) (dsrc (de_var (pv 2))) (do_some (m := .al) (de_int)) (do_none))) (da_cons (de_op op_addA r2_add (de_var (pv 2)) (de_lst (da_cons (de_int) (da_nil)))) (da_cons (de_non) (da_cons (de_int) (da_cons (de_lst (da_nil)) (da_cons (de_op op_mulA r2_mul (de_lst (da_cons (de_neg (m := .al) (de_int)) (da_nil))) (de_var (pv 3))) (da_cons (de_op op_mulA r2_mul (de_lst (da_cons (de_bl) (da_nil))) (de_var (pv 3))) (da_cons (de_op op_mulA r2_mul (de_lst (da_cons (de_non) (da_nil))) (de_var (pv 3))) (da_cons (de_edict) (da_cons (de_str) (da_nil))))))))))))))) (dss_cons (ds_for PassesOwn.never rfl (di_range1 (m' := .al) rfl T.z_range (da_cons (de_int) (da_nil))) (dg_name (pg_name (i := 5) sc__law_values_right.nd rfl (.inl rfl))) (dss_one (ds_append (pv 4) (de_f G__law_bent (hr.mono (by decide)) rfl (da_cons (de_var (pv 0)) (da_cons (de_var (pv 2)) (da_nil))))))) (dss_rel 4 (dss_cons (ds_for PassesOwn.never rfl (di_list (dsrc (de_var (pv 4)))) (dg_name (pg_name (i := 6) sc__law_values_right.nd rfl (.inl rfl))) (dss_cons (ds_set (i := 7) sc__law_values_right.nd rfl (.inl rfl) (de_f G__law_are_weights (hr.mono (by decide)) rfl (da_cons (de_var (pv 3)) (da_cons (de_var (pv 6)) (da_nil))))) (dss_one (ds_if (dt_cmp (m := .al) (m' := .al) (op_neD hr.units) r2_ne (de_repr (m := .al) R_repr hgd (hr.mono (by decide)) rfl T.z_repr (de_lst (da_cons (de_f G_is_weights (hr.mono (by decide)) rfl (da_cons (de_var (pv 1)) (da_cons (de_var (pv 6)) (da_nil)))) (da_cons (de_kw0N (m := .al) W_is_weights_0_value_lists (hr.mono (by decide)) rfl (dk_cons (de_var (pv 6)) (dk_cons (de_var (pv 1)) (dk_nil)))) (da_nil))))) (de_repr (m := .al) R_repr hgd (hr.mono (by decide)) rfl T.z_repr (de_lst (da_cons (de_var (pv 7)) (da_cons (de_var (pv 7)) (da_nil))))) (nomark _)) (dss_one (ds_ret (de_bl))) (dss_nil))))) (dss_cons (ds_own (i := 4) sc__law_values_right.nd rfl (.inl rfl) (dn_lst (da_cons (de_lst (da_nil)) (da_cons (de_tup (da_nil)) (da_cons (de_lst (da_cons (de_int) (da_nil))) (da_cons (de_lst (da_cons (de_var (pv 3)) (da_nil))) (da_cons (de_lst (da_cons (de_op (m := .al) op_sub r2_sub (de_var (pv 3)) (de_int)) (da_nil))) (da_cons (de_lst (da_cons (de_int) (da_cons (de_int) (da_nil)))) (da_cons (de_lst (da_cons (de_int) (da_cons (de_int) (da_nil)))) (da_cons (de_lst (da_cons (de_bl) (da_nil))) (da_cons (de_lst (da_cons (de_bl) (da_nil))) (da_cons (de_lst (da_cons (de_non) (da_nil))) (da_cons (de_new (dn_listRg (m' := .al) rfl rfl T.z_list rfl T.z_range (de_var (pv 3)))) (da_cons (de_lst (da_cons (de_neg (m := .al) (de_int)) (da_nil))) (da_cons (de_non) (da_cons (de_int) (da_cons (de_str) (da_cons (de_edict) (da_nil))))))))))))))))))) (dss_rel 4 (dss_cons (ds_for PassesOwn.never rfl (di_list (dsrc (de_var (pv 4)))) (dg_name (pg_name (i := 6) sc__law_values_right.nd rfl (.inl rfl))) (dss_cons (ds_set (i := 7) sc__law_values_right.nd rfl (.inl rfl) (de_f G__law_is_lot (hr.mono (by decide)) rfl (da_cons (de_var (pv 3)) (da_cons (de_var (pv 6)) (da_nil))))) (dss_one (ds_if (dt_cmp (m := .al) (m' := .al) (op_neD hr.units) r2_ne (de_repr (m := .al) R_repr hgd (hr.mono (by decide)) rfl T.z_repr (de_lst (da_cons (de_f G_is_lot (hr.mono (by decide)) rfl (da_cons (de_var (pv 1)) (da_cons (de_var (pv 6)) (da_nil)))) (da_cons (de_kw0N (m := .al) W_is_lot_0_value_lists (hr.mono (by decide)) rfl (dk_cons (de_var (pv 6)) (dk_cons (de_var (pv 1)) (dk_nil)))) (da_nil))))) (de_repr (m := .al) R_repr hgd (hr.mono (by decide)) rfl T.z_repr (de_lst (da_cons (de_var (pv 7)) (da_cons (de_var (pv 7)) (da_nil))))) (nomark _)) (dss_one (ds_ret (de_bl))) (dss_nil))))) (dss_one (ds_ret (de_bl))))))))))))))
theorem df__law_values_right (T : Tops P w K mg base) (F : Stands K mg "_law_values_right" s__law_values_right) (G__law_bent : Dfn P w K mg base "_law_bent" 12 ["pot", "value"] false (d__law_bent 8)) (G__law_are_lists : Dfn P w K mg base "_law_are_lists" 4 ["value"] false d__law_are_lists) (G_is_lists : Dfn P w K mg base "is_lists" 8 ["value"] false d_is_lists) (W_is_lists_0_value : DfnW P w K mg base "is_lists" 8 ["value"] ["value"] 0 1 [0] false d_is_lists) (R_repr : Rpr P w K mg base 2 d_Rt_repr) (G__law_are_weights : Dfn P w K mg base "_law_are_weights" 4 ["many", "value"] false d__law_are_weights) (G_is_weights : Dfn P w K mg base "is_weights" 9 ["lists", "value"] false d_is_weights) (W_is_weights_0_value_lists : DfnW P w K mg base "is_weights" 9 ["lists", "value"] ["value", "lists"] 0 2 [1, 0] false d_is_weights) (G__law_is_lot : Dfn P w K mg base "_law_is_lot" 1 ["many", "value"] false d__law_is_lot) (G_is_lot : Dfn P w K mg base "is_lot" 9 ["lists", "value"] false d_is_lot) (W_is_lot_0_value_lists : DfnW P w K mg base "is_lot" 9 ["lists", "value"] ["value", "lists"] 0 2 [1, 0] false d_is_lot) : DfnR P w K mg base "_law_values_right" 13 ["pot", "lists", "handed"] d__law_values_right :=
  dfnR (g := g__law_values_right) F sc__law_values_right (by decide) (fun _ _ _ _ _ _ us hl => match us, hl with | [_, _, _], _ => rfl) (bd__law_values_right T G__law_bent G__law_are_lists G_is_lists W_is_lists_0_value R_repr G__law_are_weights G_is_weights W_is_weights_0_value_lists G__law_is_lot G_is_lot W_is_lot_0_value_lists)

/-! ### _law_right -/
theorem wW_bases_0_lists (T : Tops P w K mg base) (F : Stands K mg "bases" s_bases) (G_bases_in : Dfn P w K mg base "bases_in" 6 ["rows"] false d_bases_in) (G_want_lists : Dfn P w K mg base "want_lists" 8 ["value"] true d_want_lists) : DfnW P w K mg base "bases" 9 ["lists"] ["lists"] 0 1 [0] false d_bases :=
  dfnW (g := g_bases) F sc_bases (by decide) (by decide) (fun _ _ _ _ _ _ us ws h1 h2 => match us, ws, h1, h2 with | [], [_], _, _ => rfl) (bd_bases T G_bases_in G_want_lists)
theorem wW_lot_rank_0_lot_lists (T : Tops P w K mg base) (F : Stands K mg "lot_rank" s_lot_rank) (G_want_lists : Dfn P w K mg base "want_lists" 8 ["value"] true d_want_lists) (G_rank_in : Dfn P w K mg base "rank_in" 5 ["rows", "lot"] false d_rank_in) (G_want_lot : Dfn P w K mg base "want_lot" 4 ["many", "value"] false d_want_lot) : DfnW P w K mg base "lot_rank" 9 ["lists", "lot"] ["lot", "lists"] 0 2 [1, 0] false d_lot_rank :=
  dfnW (g := g_lot_rank) F sc_lot_rank (by decide) (by decide) (fun _ _ _ _ _ _ us ws h1 h2 => match us, ws, h1, h2 with | [], [_, _], _, _ => rfl) (bd_lot_rank T G_want_lists G_rank_in G_want_lot)
theorem wW_excess_0_lot_weights_lists (T : Tops P w K mg base) (F : Stands K mg "excess" s_excess) (G_want_lists : Dfn P w K mg base "want_lists" 8 ["value"] true d_want_lists) (G_want_weights : Dfn P w K mg base "want_weights" 7 ["many", "value"] true d_want_weights) (G_excess_in : Dfn P w K mg base "excess_in" 7 ["rows", "weights", "lot"] false d_excess_in) (G_want_lot : Dfn P w K mg base "want_lot" 4 ["many", "value"] false d_want_lot) : DfnW P w K mg base "excess" 9 ["lists", "weights", "lot"] ["lot", "weights", "lists"] 0 3 [2, 1, 0] false d_excess :=
  dfnW (g := g_excess) F sc_excess (by decide) (by decide) (fun _ _ _ _ _ _ us ws h1 h2 => match us, ws, h1, h2 with | [], [_, _, _], _, _ => rfl) (bd_excess T G_want_lists G_want_weights G_excess_in G_want_lot)
abbrev s__law_right : Stmt := topS 78
abbrev n__law_right : List Str := ["pot", "lists", "shown", "lots", "some", "lot", "rows", "weights", "handed", "every", "rank", "more", "turn"]
theorem sc__law_right : FnScope n__law_right ["pot"] (defScope s__law_right) := ⟨rfl, rfl, rfl, by decide +kernel, rfl, by decide +kernel, by decide +kernel⟩
noncomputable def g__law_right : SF := dSeq (dAsg (dCall d__law_lists (dCons (dVar 0) (dCons (dK (.int 7)) (dNil)))) (tgName .al 1)) (dSeq (dPar 6 7 (dCall d__law_plain (dCons (dVar 1) (dNil))) (dCall d__law_weights (dCons (dVar 0) (dCons (dApp gLen (dCons (dVar 1) (dNil))) (dNil))))) (dSeq (dPar 8 9 (dCall d__law_handed (dCons (dVar 7) (dNil))) (dCall d__law_bases (dCons (dVar 6) (dNil)))) (dSeq (dAsg (dRepr d_Rt_repr (dLst (dCons (dVar 1) (dCons (dVar 8) (dNil))))) (tgName .al 2)) (dSeq (dIte (bOf (dBin gNe (dRepr d_Rt_repr (dLst (dCons (dCall d_bases (dCons (dVar 1) (dNil))) (dCons (dKw d_bases 0 1 [0] dNil (dCons (dApp gTuple (dCons (dVar 1) (dNil))) (dNil))) (dNil))))) (dRepr d_Rt_repr (dLst (dCons (dVar 9) (dCons (dVar 9) (dNil))))))) (dRet (dK (.bl false))) (dNext)) (dSeq (dAsg (dCall d__law_lots (dCons (dApp gLen (dCons (dVar 1) (dNil))) (dNil))) (tgName .al 3)) (dSeq (dAsg (dIf (bOf (dBin gLt (dApp gLen (dCons (dVar 3) (dNil))) (dK (.int 17)))) (dVar 3) (dBin gAdd (eL (lComp [12] (lRange1 (dCons (dK (.int 12)) (dNil))) (tgName .al 12) (bTrue) (dPick 8329 (dVar 0) (lOf (dVar 3))))) (dLst (dCons (dLst (dNil)) (dCons (dBin gIx (dVar 3) (dNeg (dK (.int 1)))) (dNil)))))) (tgName .al 4)) (dSeq (dFor (lOf (dVar 4)) (tgName .al 5) (dSeq (dPar 10 11 (dCall d__law_lot_rank (dCons (dVar 6) (dCons (dVar 5) (dNil)))) (dCall d__law_ratio (dCons (dCall d__law_excess (dCons (dVar 6) (dCons (dVar 7) (dCons (dVar 5) (dNil))))) (dNil)))) (dSeq (dIte (bOf (dBin gNe (dRepr d_Rt_repr (dLst (dCons (dCall d_lot_rank (dCons (dVar 1) (dCons (dVar 5) (dNil)))) (dCons (dKw d_lot_rank 0 2 [1, 0] dNil (dCons (dApp gTuple (dCons (dVar 5) (dNil))) (dCons (dVar 1) (dNil)))) (dNil))))) (dRepr d_Rt_repr (dLst (dCons (dVar 10) (dCons (dVar 10) (dNil))))))) (dRet (dK (.bl false))) (dNext)) (dIte (bOr (bOf (dNeo d_Rt_eq (dCall d_excess (dCons (dVar 1) (dCons (dVar 8) (dCons (dVar 5) (dNil))))) (dVar 11))) (bOf (dNeo d_Rt_eq (dKw d_excess 0 3 [2, 1, 0] dNil (dCons (dApp gTuple (dCons (dVar 5) (dNil))) (dCons (dApp gTuple (dCons (dVar 8) (dNil))) (dCons (dVar 1) (dNil))))) (dVar 11)))) (dRet (dK (.bl false))) (dNext))))) (dSeq (dIte (bOr (bOf (dNeo d_Rt_eq (dCall d_excess (dCons (dVar 1) (dCons (dVar 8) (dCons (dLst (dNil)) (dNil))))) (dCall (fun a => mkRat (a ++ [.int 1])) (dCons (dK (.int 0)) (dNil))))) (bOf (dNeo d_Rt_eq (dCall d_excess (dCons (dVar 1) (dCons (dVar 8) (dCons (dBin gIx (dVar 3) (dNeg (dK (.int 1)))) (dNil))))) (dCall (fun a => mkRat (a ++ [.int 1])) (dCons (dK (.int 0)) (dNil)))))) (dRet (dK (.bl false))) (dNext)) (dRet (dAnd (dCall d__law_values_right (dCons (dVar 0) (dCons (dVar 1) (dCons (dVar 8) (dNil))))) (dBin gEq (dRepr d_Rt_repr (dLst (dCons (dVar 1) (dCons (dVar 8) (dNil))))) (dVar 2))))))))))))
noncomputable def d__law_right : PF := defD 1 n__law_right false g__law_right
theorem bd__law_right (T : Tops P w K mg base) (G__law_lists : Dfn P w K mg base "_law_lists" 3 ["pot", "most"] false d__law_lists) (G__law_plain : Dfn P w K mg base "_law_plain" 4 ["lists"] false d__law_plain) (G__law_weights : Dfn P w K mg base "_law_weights" 3 ["pot", "many"] false d__law_weights) (G__law_handed : Dfn P w K mg base "_law_handed" 5 ["weights"] false d__law_handed) (G__law_bases : Dfn P w K mg base "_law_bases" 7 ["rows"] false d__law_bases) (R_repr : Rpr P w K mg base 2 d_Rt_repr) (G_bases : Dfn P w K mg base "bases" 9 ["lists"] false d_bases) (W_bases_0_lists : DfnW P w K mg base "bases" 9 ["lists"] ["lists"] 0 1 [0] false d_bases) (G__law_lots : Dfn P w K mg base "_law_lots" 1 ["many"] false d__law_lots) (PK : Pck P w K mg base 2 8329) (G__law_lot_rank : Dfn P w K mg base "_law_lot_rank" 6 ["rows", "lot"] false d__law_lot_rank) (G__law_ratio : Dfn P w K mg base "_law_ratio" 4 ["a"] false d__law_ratio) (G__law_excess : Dfn P w K mg base "_law_excess" 7 ["rows", "weights", "lot"] false d__law_excess) (G_lot_rank : Dfn P w K mg base "lot_rank" 9 ["lists", "lot"] false d_lot_rank) (W_lot_rank_0_lot_lists : DfnW P w K mg base "lot_rank" 9 ["lists", "lot"] ["lot", "lists"] 0 2 [1, 0] false d_lot_rank) (G_excess : Dfn P w K mg base "excess" 9 ["lists", "weights", "lot"] false d_excess) (W_excess_0_lot_weights_lists : DfnW P w K mg base "excess" 9 ["lists", "weights", "lot"] ["lot", "weights", "lists"] 0 3 [2, 1, 0] false d_excess) (N_eq : Neo P w K mg base 1 d_Rt_eq) (MK : Mkr P w K mg base 2) (G__law_values_right : DfnR P w K mg base "_law_values_right" 13 ["pot", "lists", "handed"] d__law_values_right) : ∀ (f : Addr) (cdv : Value) (A : Around) (outer : List PySem.Env) (s : Shared) (H : Hp) (E : XK), Room 13 (A.deeper (envOfC "_law_right" (defScope s__law_right) s.heap.objs.size f cdv)) → (A.deeper (envOfC "_law_right" (defScope s__law_right) s.heap.objs.size f cdv)).guards = some [] → DSs (cxOf CX0 P w K mg base n__law_right "_law_right" (defScope s__law_right) f cdv A outer s H E).nox (defBody s__law_right) g__law_right :=
  fun f cdv A outer s H E hr hgd => dss_cons (ds_set (i := 1) sc__law_right.nd rfl (.inl rfl) (de_f G__law_lists (hr.mono (by decide)) rfl (da_cons (de_var (pv 0)) (da_cons (de_int) (da_nil))))) (dss_cons (ds_par rfl sc__law_right.nd rfl rfl (by decide) rfl rfl (de_f G__law_plain (hr.mono (by decide)) rfl (da_cons (de_var (pv 1)) (da_nil))) (de_f G__law_weights (hr.mono (by decide)) rfl (da_cons (de_var (pv 0)) (da_cons (de_callB (m := .al) call_len_seq ra_len rfl T.z_len PySem.boot_len (da_cons (de_var (pv 1)) (da_nil))) (da_nil)))) rfl) (dss_cons (ds_par rfl sc__law_right.nd rfl rfl (by decide) rfl rfl (de_f G__law_handed (hr.mono (by decide)) rfl (da_cons (de_var (pv 7)) (da_nil))) (de_f G__law_bases (hr.mono (by decide)) rfl (da_cons (de_var (pv 6)) (da_nil))) rfl) (dss_cons (ds_set (i := 2) sc__law_right.nd rfl (.inl rfl) (de_repr (m := .al) R_repr hgd (hr.mono (by decide)) rfl T.z_repr (de_lst (da_cons (de_var (pv 1)) (da_cons (de_var (pv 8)) (da_nil)))))) (dss_cons (ds_if (dt_cmp (m := .al) (m' := .al) (op_neD hr.units) r2_ne (de_repr (m := .al) R_repr hgd (hr.mono (by decide)) rfl T.z_repr (de_lst (da_cons (de_f G_bases (hr.mono (by decide)) rfl (da_cons (de_var (pv 1)) (da_nil))) (da_cons (de_kw0N (m := .al) W_bases_0_lists (hr.mono (by decide)) rfl (dk_cons (de_callTy call_tuple_of ra_tuple rfl T.z_tuple (by decide +kernel) (da_cons (de_var (pv 1)) (da_nil))) (dk_nil))) (da_nil))))) (de_repr (m := .al) R_repr hgd (hr.mono (by decide)) rfl T.z_repr (de_lst (da_cons (de_var (pv 9)) (da_cons (de_var (pv 9)) (da_nil))))) (nomark _)) (dss_one (ds_ret (de_bl))) (dss_nil)) (dss_cons (ds_set (i := 3) sc__law_right.nd rfl (.inr rfl) (de_f G__law_lots (hr.mono (by decide)) rfl (da_cons (de_callB (m := .al) call_len_seq ra_len rfl T.z_len PySem.boot_len (da_cons (de_var (pv 1)) (da_nil))) (da_nil)))) (dss_cons (ds_set (i := 4) sc__law_right.nd rfl (.inl rfl) (de_if (dt_cmp (m := .al) (m' := .al) op_lt r2_rel (de_callB (m := .al) call_len_seq ra_len rfl T.z_len PySem.boot_len (da_cons (de_var (pv 3)) (da_nil))) (de_int) (nomark _)) (de_var (pv 3)) (de_op op_addA r2_add (de_new (dn_comp (own := [("turn", 12)]) (sf := false) rfl sc__law_right.nd (di_range1 (m' := .al) rfl T.z_range (da_cons (de_int) (da_nil))) (blkOk_by (N := n__law_right) (sc := defScope s__law_right) (by decide +kernel)) (fun _ _ _ _ _ => dg_name (pg_name (i := 12) sc__law_right.nd rfl (.inl rfl))) (fun _ _ _ _ _ => dts_nil) (fun _ _ _ _ _ => de_pick (m' := .al) (sf := false) PK (hr.mono (by decide)) rfl (de_var (pv 0)) (dsrc (de_var (pv 3)))) tgOk_name (by decide))) (de_lst (da_cons (de_lst (da_nil)) (da_cons (de_ix ix_seq r2_ix (de_var (pv 3)) (de_neg (m := .al) (de_int)) (fun _ _ => rfl)) (da_nil))))))) (dss_cons (ds_for PassesOwn.never rfl (di_list (dsrc (de_var (pv 4)))) (dg_name (pg_name (i := 5) sc__law_right.nd rfl (.inl rfl))) (dss_cons (ds_par rfl sc__law_right.nd rfl rfl (by decide) rfl rfl (de_f G__law_lot_rank (hr.mono (by decide)) rfl (da_cons (de_var (pv 6)) (da_cons (de_var (pv 5)) (da_nil)))) (de_f G__law_ratio (hr.mono (by decide)) rfl (da_cons (de_f G__law_excess (hr.mono (by decide)) rfl (da_cons (de_var (pv 6)) (da_cons (de_var (pv 7)) (da_cons (de_var (pv 5)) (da_nil))))) (da_nil))) rfl) (dss_cons (ds_if (dt_cmp (m := .al) (m' := .al) (op_neD hr.units) r2_ne (de_repr (m := .al) R_repr hgd (hr.mono (by decide)) rfl T.z_repr (de_lst (da_cons (de_f G_lot_rank (hr.mono (by decide)) rfl (da_cons (de_var (pv 1)) (da_cons (de_var (pv 5)) (da_nil)))) (da_cons (de_kw0N (m := .al) W_lot_rank_0_lot_lists (hr.mono (by decide)) rfl (dk_cons (de_callTy call_tuple_of ra_tuple rfl T.z_tuple (by decide +kernel) (da_cons (de_var (pv 5)) (da_nil))) (dk_cons (de_var (pv 1)) (dk_nil)))) (da_nil))))) (de_repr (m := .al) R_repr hgd (hr.mono (by decide)) rfl T.z_repr (de_lst (da_cons (de_var (pv 10)) (da_cons (de_var (pv 10)) (da_nil))))) (nomark _)) (dss_one (ds_ret (de_bl))) (dss_nil)) (dss_one (ds_if (dt_w (dw_or (dt_neo (m' := .al) N_eq (hr.mono (by decide)) (de_f G_excess (hr.mono (by decide)) rfl (da_cons (de_var (pv 1)) (da_cons (de_var (pv 8)) (da_cons (de_var (pv 5)) (da_nil))))) (de_var (pv 11))) (dw_or1 (dt_neo (m' := .al) N_eq (hr.mono (by decide)) (de_kw0N (m := .al) W_excess_0_lot_weights_lists (hr.mono (by decide)) rfl (dk_cons (de_callTy call_tuple_of ra_tuple rfl T.z_tuple (by decide +kernel) (da_cons (de_var (pv 5)) (da_nil))) (dk_cons (de_callTy call_tuple_of ra_tuple rfl T.z_tuple (by decide +kernel) (da_cons (de_var (pv 8)) (da_nil))) (dk_cons (de_var (pv 1)) (dk_nil))))) (de_var (pv 11)))))) (dss_one (ds_ret (de_bl))) (dss_nil)))))) (dss_cons (ds_if (dt_w (dw_or (dt_neo (m' := .al) N_eq (hr.mono (by decide)) (de_f G_excess (hr.mono (by decide)) rfl (da_cons (de_var (pv 1)) (da_cons (de_var (pv 8)) (da_cons (de_lst (da_nil)) (da_nil))))) (de_mk1 (m := .al) MK (hr.mono (by decide)) rfl (da_cons (de_int) (da_nil)))) (dw_or1 (dt_neo (m' := .al) N_eq (hr.mono (by decide)) (de_f G_excess (hr.mono (by decide)) rfl (da_cons (de_var (pv 1)) (da_cons (de_var (pv 8)) (da_cons (de_ix ix_seq r2_ix (de_var (pv 3)) (de_neg (m := .al) (de_int)) (fun _ _ => rfl)) (da_nil))))) (de_mk1 (m := .al) MK (hr.mono (by decide)) rfl (da_cons (de_int) (da_nil))))))) (dss_one (ds_ret (de_bl))) (dss_nil)) (dss_one (ds_ret (de_and (m' := .al) (de_fR G__law_values_right hgd (hr.mono (by decide)) rfl (da_cons (de_var (pv 0)) (da_cons (de_var (pv 1)) (da_cons (de_var (pv 8)) (da_nil))))) (de_one (de_cmp (m := .al) (op_eqD hr.units) r2_eq (de_repr (m := .al) R_repr hgd (hr.mono (by decide)) rfl T.z_repr (de_lst (da_cons (de_var (pv 1)) (da_cons (de_var (pv 8)) (da_nil))))) (de_var (pv 2)) (nomark _))))))))))))))
theorem df__law_right (T : Tops P w K mg base) (F : Stands K mg "_law_right" s__law_right) (G__law_lists : Dfn P w K mg base "_law_lists" 3 ["pot", "most"] false d__law_lists) (G__law_plain : Dfn P w K mg base "_law_plain" 4 ["lists"] false d__law_plain) (G__law_weights : Dfn P w K mg base "_law_weights" 3 ["pot", "many"] false d__law_weights) (G__law_handed : Dfn P w K mg base "_law_handed" 5 ["weights"] false d__law_handed) (G__law_bases : Dfn P w K mg base "_law_bases" 7 ["rows"] false d__law_bases) (R_repr : Rpr P w K mg base 2 d_Rt_repr) (G_bases : Dfn P w K mg base "bases" 9 ["lists"] false d_bases) (W_bases_0_lists : DfnW P w K mg base "bases" 9 ["lists"] ["lists"] 0 1 [0] false d_bases) (G__law_lots : Dfn P w K mg base "_law_lots" 1 ["many"] false d__law_lots) (PK : Pck P w K mg base 2 8329) (G__law_lot_rank : Dfn P w K mg base "_law_lot_rank" 6 ["rows", "lot"] false d__law_lot_rank) (G__law_ratio : Dfn P w K mg base "_law_ratio" 4 ["a"] false d__law_ratio) (G__law_excess : Dfn P w K mg base "_law_excess" 7 ["rows", "weights", "lot"] false d__law_excess) (G_lot_rank : Dfn P w K mg base "lot_rank" 9 ["lists", "lot"] false d_lot_rank) (W_lot_rank_0_lot_lists : DfnW P w K mg base "lot_rank" 9 ["lists", "lot"] ["lot", "lists"] 0 2 [1, 0] false d_lot_rank) (G_excess : Dfn P w K mg base "excess" 9 ["lists", "weights", "lot"] false d_excess) (W_excess_0_lot_weights_lists : DfnW P w K mg base "excess" 9 ["lists", "weights", "lot"] ["lot", "weights", "lists"] 0 3 [2, 1, 0] false d_excess) (N_eq : Neo P w K mg base 1 d_Rt_eq) (MK : Mkr P w K mg base 2) (G__law_values_right : DfnR P w K mg base "_law_values_right" 13 ["pot", "lists", "handed"] d__law_values_right) : DfnR P w K mg base "_law_right" 14 ["pot"] d__law_right :=
  dfnR (g := g__law_right) F sc__law_right (by decide) (fun _ _ _ _ _ _ us hl => match us, hl with | [_], _ => rfl) (bd__law_right T G__law_lists G__law_plain G__law_weights G__law_handed G__law_bases R_repr G_bases W_bases_0_lists G__law_lots PK G__law_lot_rank G__law_ratio G__law_excess G_lot_rank W_lot_rank_0_lot_lists G_excess W_excess_0_lot_weights_lists N_eq MK G__law_values_right)

end K36
namespace K36
section
open PySem PySem.Spec PyProof.Rows L2 DL RK
variable {p : Pot}
theorem q_is_integer (i : Int) : d_is_integer [.int i] p = some (.bl true, p) := rfl
theorem q_is_integerR (t b : Int) : d_is_integer [.rat t b] p = some (.bl false, p) := rfl
theorem q_is_integerL (l : List D) : d_is_integer [.lst l] p = some (.bl false, p) := rfl
theorem q_is_list (l : List D) : d_is_list [.lst l] p = some (.bl true, p) := rfl
theorem q_is_listT (l : List D) : d_is_list [.tup l] p = some (.bl true, p) := rfl
theorem q_common (a b : Int) : d_common_part [.int a, .int b] p = some (.int (cpart a b), p) := rfl
theorem q_told (i : Int) : d_told_pair [.int i] p = some (.tup [.int i, .int 1], p) := rfl
theorem q_toldR (t b : Int) : d_told_pair [.rat t b] p = some (.tup [.int t, .int b], p) := rfl
theorem q_top (t b : Int) : d_Rt_top [.rat t b] p = some (.int t, p) := rfl
theorem q_bottom (t b : Int) : d_Rt_bottom [.rat t b] p = some (.int b, p) := rfl
theorem q_is_count (i : Int) : d_is_count [.int i] p = some (.bl (decide (0 ≤ i)), p) := rfl
theorem q_sign (t b : Int) : d_Rt_sign [.rat t b] p = some (.int ((if 0 < t then 1 else 0) - (if t < 0 then 1 else 0)), p) := by
  simp [d_Rt_sign, g_Rt_sign, gInt, startD, RF.get]
theorem q_is_number (i : Int) : d_is_number [.int i] p = some (.bl true, p) := rfl
theorem q_is_numberR (t b : Int) : d_is_number [.rat t b] p = some (.bl true, p) := rfl
end
section
open PySem PySem.Spec PyProof.Rows L2 DL RK
variable {p : Pot}
/-! ### pure: sizes of the elimination's rows -/
theorem gcd_le : ∀ (row : List Int) (c : Int) (n : Nat), Bt n c → (∀ x ∈ row, Bt n x) → Bt n (row.foldl (fun c x => if x ≠ 0 then cpart c x else c) c)
  | [], c, n, hc, _ => hc
  | y :: row, c, n, hc, h => by
    rw [List.foldl_cons]
    refine gcd_le row _ n ?_ fun x hx => h x (List.mem_cons_of_mem _ hx)
    by_cases hy : y ≠ 0
    · rw [if_pos hy]
      have h1 := h y List.mem_cons_self
      unfold Bt cpart at *
      rw [Int.natAbs_natCast]
      exact Nat.lt_of_le_of_lt (Nat.gcd_le_right _ (by omega)) h1
    · rw [if_neg hy]; exact hc
theorem rowGcd_bt {row : List Int} {n : Nat} (h : ∀ x ∈ row, Bt n x) : Bt n (rowGcd row) := gcd_le row 0 n Bt.zero h
theorem fdiv_bt {n : Nat} {x g : Int} (h : Bt n x) (hd : g ∣ x) (hg : 0 < g) : Bt n (x.fdiv g) := by
  have e := Int.fdiv_mul_cancel hd
  unfold Bt at *
  have h1 : x.natAbs = (x.fdiv g).natAbs * g.natAbs := by rw [← Int.natAbs_mul, e]
  have h2 : 1 ≤ g.natAbs := by omega
  have : (x.fdiv g).natAbs ≤ (x.fdiv g).natAbs * g.natAbs := Nat.le_mul_of_pos_right _ h2
  omega
theorem plain_bt {row : List Int} {n : Nat} (h : ∀ x ∈ row, Bt n x) : ∀ x ∈ plainRow row, Bt n x := by
  unfold plainRow
  split
  · rename_i hg
    intro x hx
    obtain ⟨y, hy, rfl⟩ := List.mem_map.mp hx
    exact fdiv_bt (h y hy) (rowGcd_dvd hy) (by omega)
  · exact h
theorem getD_bt {r : List Int} {n : Nat} (h : ∀ x ∈ r, Bt n x) (i : Nat) : Bt n (r.getD i 0) := by
  rw [List.getD_eq_getElem?_getD]
  cases e : r[i]? with
  | none => exact Bt.zero
  | some x => exact h x (List.mem_of_getElem? e)
theorem comb_bt {row head : List Int} {j n : Nat} (h : ∀ x ∈ row, Bt n x) (hh : ∀ x ∈ head, Bt n x) : ∀ x ∈ combRow row head j, Bt (2 * n + 1) x := by
  intro x hx
  obtain ⟨z, hz, rfl⟩ := List.mem_map.mp hx
  obtain ⟨z1, z2⟩ := List.of_mem_zip (a := z.1) (b := z.2) hz
  have h1 := (getD_bt hh j).mul (h _ z1)
  have h2 := (getD_bt h j).mul (hh _ z2)
  rw [show 2 * n + 1 = n + n + 1 by omega]
  exact h1.sub h2
theorem cleared_bt {row head : List Int} {j n : Nat} (h : ∀ x ∈ row, Bt n x) (hh : ∀ x ∈ head, Bt n x) : ∀ x ∈ cleared row head j, Bt (2 * n + 1) x := by
  unfold cleared
  split
  · exact fun x hx => (h x hx).mono (by omega)
  · exact plain_bt (comb_bt h hh)
/-! ### plain_row -/
theorem q_plain_row {row : List Int} (hl : row.length ≤ 65536) (hb : ∀ x ∈ row, Bt 8000 x) : d_plain_row [eI row] p = some (eI (plainRow row), p) := by
  obtain ⟨j, hj⟩ := forL (t := tgName .al 2) (g := dIte (bOf (dBin gNe (dVar 2) (dK (.int 0)))) (dAsg (dCall d_common_part (dCons (dVar 1) (dCons (dVar 2) (dNil)))) (tgName .al 1)) (dNext)) (p := p) (enc := D.int) (R := fun (s : Int) (j : Option D) => [.sh (eI row), .sh (.int s), jS j])
    (step := fun c x => if x ≠ 0 then cpart c x else c) (I := fun _ => True) (xs := row) (s := 0) (j := none) trivial fun x _ s j _ => ⟨trivial, _, some (.int x), rfl, by
      by_cases hx : x = 0
      · simp [hx, jS]
      · simp [hx, q_common, jS]⟩
  have hg := rowGcd_bt hb
  refine x_def rfl (x_seq (x_asgN rfl) (x_seq (x_for rfl hj) (x_ret ?_)))
  unfold plainRow
  have tst : bOf (dBin gGt (dVar 1) (dK (.int 1))) [.sh (eI row), .sh (.int (rowGcd row)), jS j] p = some (decide (1 < rowGcd row), p) := rfl
  by_cases h1 : 1 < rowGcd row
  · rw [if_pos h1]
    rw [decide_eq_true h1] at tst
    refine x_ifT tst ?_
    refine (x_eL (x_comp (by cases j <;> rfl) rfl (compM D.int (fun x => .int (x.fdiv (rowGcd row))) fun x hx => ⟨_, rfl, x_bin rfl rfl (g_fdiv ⟨by omega, by have := hg.log (by decide); omega⟩)⟩) (by simpa using hl))).trans ?_
    unfold eI; rw [List.map_map]; rfl
  · rw [if_neg h1]
    rw [decide_eq_false h1] at tst
    exact x_ifF tst rfl
/-! ### cleared -/
theorem at_eI {row : List Int} {j : Nat} (h : j < row.length) : gIx (eI row) (.int (j : Nat)) = some (.int (row.getD j 0)) := by
  show atI (row.map D.int) (j : Int) = _
  rw [at_nat, List.getElem?_map, List.getElem?_eq_getElem h, List.getD_eq_getElem?_getD, List.getElem?_eq_getElem h]; rfl
theorem zip_enc {row head : List Int} : ((row.map D.int).zip (head.map D.int)).map (fun z => D.tup [z.1, z.2]) = (row.zip head).map fun z => D.tup [.int z.1, .int z.2] := by
  rw [List.zip_map, List.map_map]; rfl
theorem q_cleared {row head : List Int} {j n w : Nat} (hr : row.length = w) (hh : head.length = w) (hw : w ≤ 60000) (hj : j < w) (hb : ∀ x ∈ row, Bt n x) (hb2 : ∀ x ∈ head, Bt n x) (hn : 0 < n) (hn2 : n ≤ 3900) :
    d_cleared [eI row, eI head, .int (j : Nat)] p = some (eI (cleared row head j), p) := by
  unfold cleared
  have ar := at_eI (row := row) (j := j) (by omega)
  have ah := at_eI (row := head) (j := j) (by omega)
  have tst : ∀ ρ : DEnv, ρ[0]? = some (.sh (eI row)) → ρ[2]? = some (.sh (.int (j : Nat))) → bOf (dBin gEq (dBin gIx (dVar 0) (dVar 2)) (dK (.int 0))) ρ p = some (decide (row.getD j 0 = 0), p) := fun ρ h0 h2 =>
    x_bOf (x_bin (x_bin (p1 := p) (by rw [ev_var, h0]) (by rw [ev_var, h2]) ar) rfl g_eq)
  by_cases h : row.getD j 0 = 0
  · rw [if_pos h]
    refine x_def rfl (x_seqR (x_iteT (p1 := p) ?_ (x_ret rfl)))
    exact (tst _ rfl rfl).trans (by rw [decide_eq_true h])
  · rw [if_neg h]
    have hc : combRow row head j = (row.zip head).map fun z => head.getD j 0 * z.1 - row.getD j 0 * z.2 := rfl
    have hlen : (row.zip head).length = w := by rw [List.length_zip]; omega
    refine x_def rfl (x_seq (x_iteF ((tst _ rfl rfl).trans (by rw [decide_eq_false h])) rfl) (x_ret (x_call (x_cons (x_eL (x_comp (es := (combRow row head j).map D.int) rfl ((x_zip (x_lOf rfl) (x_lOf rfl)).trans (by rw [zip_enc])) ?_ ?_)) rfl) (q_plain_row (row := combRow row head j) ?_ ?_))))
    · rw [hc, List.map_map]
      refine compM (fun z : Int × Int => D.tup [.int z.1, .int z.2]) (fun z => D.int (head.getD j 0 * z.1 - row.getD j 0 * z.2)) fun z hz => ⟨_, rfl, ?_⟩
      obtain ⟨z1, z2⟩ := List.of_mem_zip (a := z.1) (b := z.2) hz
      exact x_bin (x_bin (x_bin rfl rfl ah) rfl (mul_ok (getD_bt hb2 j) (hb _ z1) hn hn (by omega))) (x_bin (x_bin rfl rfl ar) rfl (mul_ok (getD_bt hb j) (hb2 _ z2) hn hn (by omega))) g_sub
    · rw [hc, List.length_map, List.length_map, hlen]; omega
    · rw [hc, List.length_map, hlen]; omega
    · exact fun x hx => (comb_bt hb hb2 x hx).mono (by omega)
/-! ### first_at -/
def firstD (rows : List (List Int)) (j : Nat) : Int := match rows.findIdx? fun r => decide (r.getD j 0 ≠ 0) with
  | some i => (i : Int)
  | none => -1
theorem find_zip (P : List Int → Bool) : ∀ (rows : List (List Int)) (k : Nat), (rows.zipIdx k).find? (fun y => P y.1) = (match rows.findIdx? P with
    | some i => (rows[i]?).map fun r => (r, k + i)
    | none => none)
  | [], k => rfl
  | r :: rows, k => by
    rw [List.zipIdx_cons, List.findIdx?_cons]
    by_cases h : P r = true
    · rw [List.find?_cons_of_pos (by exact h), if_pos h]; simp
    · rw [List.find?_cons_of_neg (by exact h), if_neg h, find_zip P rows (k + 1)]
      cases e : rows.findIdx? P with
      | none => rfl
      | some i =>
        show (rows[i]?).map (fun r => (r, k + 1 + i)) = ((r :: rows)[i + 1]?).map (fun r => (r, k + (i + 1)))
        rw [List.getElem?_cons_succ, show k + 1 + i = k + (i + 1) by omega]
theorem enum_enc {rows : List (List Int)} : ((rows.map eI).zipIdx).map (fun y => D.tup [.int (y.2 : Nat), y.1]) = rows.zipIdx.map fun y => D.tup [.int (y.2 : Nat), eI y.1] := by
  rw [List.zipIdx_map, List.map_map]; rfl
theorem q_first_at {rows : List (List Int)} {j w : Nat} (hw : ∀ r ∈ rows, r.length = w) (hj : j < w) : d_first_at [eR rows, .int (j : Nat)] p = some (.int (firstD rows j), p) := by
  obtain ⟨s, hs⟩ := forRet (t := tgTup .al [2, 3]) (g := dIte (bOf (dBin gNe (dBin gIx (dVar 3) (dVar 1)) (dK (.int 0)))) (dRet (dVar 2)) (dNext)) (p := p) (enc := fun y : List Int × Nat => D.tup [.int (y.2 : Nat), eI y.1])
    (R := fun (s : Option D × Option D) => [.sh (eR rows), .sh (.int (j : Nat)), jS s.1, jS s.2]) (P := fun y => decide (y.1.getD j 0 ≠ 0)) (ret := fun y => .int (y.2 : Nat)) (xs := rows.zipIdx) (j := (none, none)) fun y hy s => ⟨_, (some (.int (y.2 : Nat)), some (eI y.1)), rfl, by
      have hm : y.1 ∈ rows := by
        have := List.mem_zipIdx (x := y.1) (i := y.2) (xs := rows) hy
        obtain ⟨_, _, e⟩ := this
        rw [e]; exact List.getElem_mem _
      have ay := at_eI (row := y.1) (j := j) (by rw [hw _ hm]; exact hj)
      have tst : bOf (dBin gNe (dBin gIx (dVar 3) (dVar 1)) (dK (.int 0))) [.sh (eR rows), .sh (.int (j : Nat)), .sh (.int (y.2 : Nat)), .sh (eI y.1)] p = some (decide (y.1.getD j 0 ≠ 0), p) := by
        refine (x_bOf (x_bin (x_bin rfl rfl ay) rfl g_ne)).trans ?_
        rw [decide_not]
      by_cases h : y.1.getD j 0 ≠ 0
      · rw [decide_eq_true h] at tst ⊢
        rw [if_pos rfl]
        exact x_iteT tst (x_ret rfl)
      · rw [decide_eq_false h] at tst ⊢
        rw [if_neg Bool.false_ne_true]
        exact x_iteF tst rfl⟩
  unfold firstD
  have hf := find_zip (fun r => decide (r.getD j 0 ≠ 0)) rows 0
  rw [show (rows.zipIdx.find? fun y => decide (y.1.getD j 0 ≠ 0)) = _ from hf] at hs
  cases e : rows.findIdx? fun r => decide (r.getD j 0 ≠ 0) with
  | none =>
    rw [e] at hs
    exact x_def rfl (x_seq (x_for ((x_enum (x_lOf rfl)).trans (by rw [enum_enc])) hs) (x_ret rfl))
  | some i =>
    rw [e] at hs
    obtain ⟨hlt, _⟩ := List.findIdx?_eq_some_iff_getElem.mp e
    dsimp only at hs
    rw [List.getElem?_eq_getElem hlt] at hs
    simp only [Option.map_some, Nat.zero_add] at hs
    exact x_def rfl (x_seqR (x_for ((x_enum (x_lOf rfl)).trans (by rw [enum_enc])) hs))
end
section
open PySem PySem.Spec PyProof.Rows L2 DL RK
variable {p : Pot}
/-- the bits behind k steps -/
def bitsAt (b : Nat) : Nat → Nat
  | 0 => b
  | k + 1 => 2 * bitsAt b k + 1
theorem bits_mono {b : Nat} : ∀ {k m : Nat}, k ≤ m → bitsAt b k ≤ bitsAt b m
  | k, 0, h => by have : k = 0 := by omega
                  rw [this]; exact Nat.le_refl _
  | k, m + 1, h => by
    by_cases e : k = m + 1
    · rw [e]; exact Nat.le_refl _
    · have := bits_mono (b := b) (k := k) (m := m) (by omega)
      show _ ≤ 2 * bitsAt b m + 1
      omega
theorem firstD_eq (rows : List (List Int)) (j w : Nat) : firstD rows j = match rows.findIdx? ((EI w).nz j) with
  | some i => (i : Int)
  | none => -1 := rfl
def eS (s : List (List Int) × List (List Int)) (j : Option D × Option D × Option D) (rows : List (List Int)) : DEnv := [.sh (eR rows), jS j.1, .sh (eR s.1), .sh (.int s.2.length), jS j.2.1, jS j.2.2, .no]
theorem ne_nil {rows : List (List Int)} : gNe (eR rows) (.lst []) = some (.bl (!decide (rows = []))) := by
  refine gNe_pl (pl_eR rows).1 rfl (Nat.le_trans (pl_eR rows).2 (by decide)) (by simp [dpD, dpAll]) ?_
  rw [decide_eq_true_iff]
  exact ⟨fun h => by rw [h]; rfl, fun h => eR_inj.mp h⟩
theorem q_int_rank_w {rows : List (List Int)} {w b : Nat} (hz : rows = [] → w = 0) (hw : ∀ r ∈ rows, r.length = w) (hn : rows.length ≤ 60000) (hw2 : w ≤ 4) (hb : ∀ r ∈ rows, ∀ x ∈ r, Bt b x) (hb0 : 0 < b) (hb2 : b ≤ 200) :
    d_int_rank [eR rows] p = some (.int (((EI w).run w rows).2.length : Nat), p) := by
  have hwid : (rows.headD []).length = w ∨ rows = [] := by
    cases rows with
    | nil => exact .inr rfl
    | cons r rows => exact .inl (hw r List.mem_cons_self)
  have hb4 : bitsAt b 4 ≤ 3900 := by show 2 * (2 * (2 * (2 * b + 1) + 1) + 1) + 1 ≤ 3900; omega
  -- the loop
  have body : ∀ (j : Nat) (s : List (List Int) × List (List Int)) (o : Option D × Option D × Option D), j < w →
      ((∀ r ∈ s.1, r.length = w ∧ ∀ x ∈ r, Bt (bitsAt b j) x) ∧ s.1.length ≤ 60000) →
      ((∀ r ∈ ((EI w).step j s).1, r.length = w ∧ ∀ x ∈ r, Bt (bitsAt b (j + 1)) x) ∧ ((EI w).step j s).1.length ≤ 60000) ∧
      ∃ r o', tgName .al 1 (eS s o rows) (.int (j : Nat)) = some r ∧ (dSeq (dAsg (dCall d_first_at (dCons (dVar 2) (dCons (dVar 1) (dNil)))) (tgName .al 4)) (dIte (bOf (dBin gGe (dVar 4) (dK (.int 0)))) (dSeq (dAsg (dBin gIx (dVar 2) (dVar 4)) (tgName .al 5)) (dSeq (dAsg (eL (lComp [6] (lCat (lSl (lOf (dVar 2)) (oNone) (oSome (dVar 4))) (lSl (lOf (dVar 2)) (oSome (dBin gAdd (dVar 4) (dK (.int 1)))) (oNone))) (tgName .al 6) (bTrue) (dCall d_cleared (dCons (dVar 6) (dCons (dVar 5) (dCons (dVar 1) (dNil))))))) (tgName .al 2)) (dAsg (dBin gAdd (dVar 3) (dK (.int 1))) (tgName .al 3)))) (dNext))) r p = some (.nx, eS ((EI w).step j s) o' rows, p) := by
    intro j s o hj ⟨hI, hlen⟩
    have hfa : d_first_at [eR s.1, .int (j : Nat)] p = some (.int (firstD s.1 j), p) := q_first_at (fun r hr => (hI r hr).1) hj
    rw [firstD_eq s.1 j w] at hfa
    unfold Elm.step
    cases e : s.1.findIdx? ((EI w).nz j) with
    | none =>
      rw [e] at hfa
      refine ⟨⟨fun r hr => ⟨(hI r hr).1, fun x hx => ((hI r hr).2 x hx).mono (by show _ ≤ 2 * bitsAt b j + 1; omega)⟩, hlen⟩, _, (some (.int (j : Nat)), some (.int (-1)), o.2.2), rfl, ?_⟩
      exact x_seq (x_asgN (x_call rfl hfa)) (x_iteF rfl rfl)
    | some i =>
      rw [e] at hfa
      obtain ⟨hlt, hp, _⟩ := List.findIdx?_eq_some_iff_getElem.mp e
      dsimp only
      rw [List.getElem?_eq_getElem hlt]
      dsimp only
      have hm : s.1[i] ∈ s.1 := List.getElem_mem hlt
      have hsub : ∀ r ∈ s.1.take i ++ s.1.drop (i + 1), r ∈ s.1 := fun r hr => by
        rcases List.mem_append.mp hr with q | q
        · exact List.mem_of_mem_take q
        · exact List.mem_of_mem_drop q
      have hbj : bitsAt b j ≤ bitsAt b 4 := bits_mono (by omega)
      have hbp : 0 < bitsAt b j := Nat.lt_of_lt_of_le hb0 (bits_mono (k := 0) (Nat.zero_le j))
      refine ⟨⟨fun r hr => ?_, ?_⟩, _, (some (.int (j : Nat)), some (.int (i : Nat)), some (eI s.1[i])), rfl, ?_⟩
      · obtain ⟨u, hu, rfl⟩ := List.mem_map.mp hr
        have h1 := hI u (hsub u hu)
        have h2 := hI _ hm
        exact ⟨by show (cleared u s.1[i] j).length = w; rw [cleared_len (by rw [h1.1, h2.1]), h1.1], cleared_bt h1.2 h2.2⟩
      · rw [List.length_map, List.length_append, List.length_take, List.length_drop]; omega
      · have hfa' : d_first_at [eR s.1, .int (j : Nat)] p = some (.int (i : Nat), p) := hfa
        have t1 : bOf (dBin gGe (dVar 4) (dK (.int 0))) [.sh (eR rows), .sh (.int (j : Nat)), .sh (eR s.1), .sh (.int s.2.length), .sh (.int (i : Nat)), jS o.2.2, .no] p = some (true, p) := by
          show some (decide ((0 : Int) ≤ (i : Int)), p) = _
          rw [decide_eq_true (Int.natCast_nonneg i)]
        have t2 : gIx (eR s.1) (.int (i : Nat)) = some (eI s.1[i]) := by
          show atI (s.1.map eI) (i : Int) = _
          rw [at_nat, List.getElem?_map, List.getElem?_eq_getElem hlt]; rfl
        have t3 : lComp [6] (lCat (lSl (lOf (dVar 2)) (oNone) (oSome (dVar 4))) (lSl (lOf (dVar 2)) (oSome (dBin gAdd (dVar 4) (dK (.int 1)))) (oNone))) (tgName .al 6) (bTrue) (dCall d_cleared (dCons (dVar 6) (dCons (dVar 5) (dCons (dVar 1) (dNil)))))
            [.sh (eR rows), .sh (.int (j : Nat)), .sh (eR s.1), .sh (.int s.2.length), .sh (.int (i : Nat)), .sh (eI s.1[i]), .no] p = some (((s.1.take i ++ s.1.drop (i + 1)).map fun r => cleared r s.1[i] j).map eI, p) := by
          refine x_comp rfl (x_cat (x_slTo (i := i) (ds := s.1.map eI) rfl rfl (by rw [List.length_map]; omega)) (x_slFrom (i := i + 1) (ds := s.1.map eI) rfl rfl (by rw [List.length_map]; omega)) (by simp; omega)) ?_ (by simp; omega)
          rw [← List.map_take, ← List.map_drop, ← List.map_append, List.map_map]
          refine compM eI (fun r => eI (cleared r s.1[i] j)) fun r hr => ⟨_, rfl, ?_⟩
          have h1 := hI r (hsub r hr)
          have h2 := hI _ hm
          exact x_call rfl (q_cleared h1.1 h2.1 (by omega) hj h1.2 h2.2 hbp (by omega))
        have t4 : ((s.2 ++ [s.1[i]]).length : Int) = (s.2.length : Int) + 1 := by rw [List.length_append]; rfl
        refine x_seq (x_asgN (x_call rfl hfa')) (x_iteT t1 (x_seq (x_asgN (x_bin rfl rfl t2)) (x_seq (x_asgN (x_eL t3)) ((x_asgN (x_bin rfl rfl g_add)).trans ?_))))
        show _ = some (Fl.nx, eS _ _ rows, p)
        unfold eS
        rw [t4]
        rfl
  have hrange : ∀ ρ : DEnv, ρ[0]? = some (.sh (eR rows)) → (rows = [] → w = 0) → lRange1 (dCons (dIf (bOf (dBin gNe (dVar 0) (dLst (dNil)))) (dApp gLen (dCons (dBin gIx (dVar 0) (dK (.int 0))) (dNil))) (dK (.int 0))) (dNil)) ρ p = some ((List.range w).map fun i => D.int (i : Nat), p) := fun ρ h0 hz => by
    have hv : dVar 0 ρ p = some (eR rows, p) := by rw [ev_var, h0]
    have tst : bOf (dBin gNe (dVar 0) (dLst (dNil))) ρ p = some (!decide (rows = []), p) := x_bOf (x_bin hv (x_lst rfl (by simp)) ne_nil)
    have hx : dCons (dIf (bOf (dBin gNe (dVar 0) (dLst (dNil)))) (dApp gLen (dCons (dBin gIx (dVar 0) (dK (.int 0))) (dNil))) (dK (.int 0))) (dNil) ρ p = some ([.int (w : Nat)], p) := by
      refine x_cons ?_ rfl
      by_cases hr : rows = []
      · rw [decide_eq_true hr] at tst
        refine x_ifF tst ?_
        rw [hz hr]; rfl
      · rw [decide_eq_false hr] at tst
        refine x_ifT tst (x_app (x_cons (x_bin hv rfl (d := eI (rows.headD [])) ?_) rfl) ?_)
        · show atI (rows.map eI) 0 = _
          rw [at_0]
          cases rows with
          | nil => exact absurd rfl hr
          | cons r rows => rfl
        · show some (D.int ((rows.headD []).map D.int).length) = _
          rw [List.length_map]
          rcases hwid with z | z
          · rw [z]
          · exact absurd z hr
    rw [x_range1 hx (by omega), Int.toNat_natCast, dInts_map]
  obtain ⟨o', h1, _⟩ := forLi (t := tgName .al 1) (g := (dSeq (dAsg (dCall d_first_at (dCons (dVar 2) (dCons (dVar 1) (dNil)))) (tgName .al 4)) (dIte (bOf (dBin gGe (dVar 4) (dK (.int 0)))) (dSeq (dAsg (dBin gIx (dVar 2) (dVar 4)) (tgName .al 5)) (dSeq (dAsg (eL (lComp [6] (lCat (lSl (lOf (dVar 2)) (oNone) (oSome (dVar 4))) (lSl (lOf (dVar 2)) (oSome (dBin gAdd (dVar 4) (dK (.int 1)))) (oNone))) (tgName .al 6) (bTrue) (dCall d_cleared (dCons (dVar 6) (dCons (dVar 5) (dCons (dVar 1) (dNil))))))) (tgName .al 2)) (dAsg (dBin gAdd (dVar 3) (dK (.int 1))) (tgName .al 3)))) (dNext))))
      (p := p) (enc := fun i : Nat => D.int (i : Nat)) (R := fun s o => eS s o rows) (step := fun s j => (EI w).step j s) (I := fun k s => (∀ r ∈ s.1, r.length = w ∧ ∀ x ∈ r, Bt (bitsAt b k) x) ∧ s.1.length ≤ 60000)
      (xs := List.range w) (k := 0) (s := (rows, [])) (j := (none, none, none)) ⟨fun r hr => ⟨hw r hr, hb r hr⟩, hn⟩ fun i x hx s o hI => by
        have hi := (List.getElem?_eq_some_iff.mp hx)
        obtain ⟨hi1, hi2⟩ := hi
        have hxi : x = i := by simpa using hi2.symm
        subst hxi
        rw [Nat.zero_add] at hI ⊢
        exact body x s o (by simpa using hi1) hI
  exact x_def rfl (x_seq rfl (x_seq (x_for (hrange _ rfl hz) h1) (x_ret rfl)))
theorem q_int_rank {rows : List (List Int)} {w b : Nat} (hw : ∀ r ∈ rows, r.length = w) (hn : rows.length ≤ 60000) (hw2 : w ≤ 4) (hb : ∀ r ∈ rows, ∀ x ∈ r, Bt b x) (hb0 : 0 < b) (hb2 : b ≤ 200) :
    d_int_rank [eR rows] p = some (.int (intRank rows : Nat), p) := by
  cases rows with
  | nil => exact q_int_rank_w (w := 0) (b := b) (fun _ => rfl) (fun r hr => absurd hr (by simp)) hn (by decide) hb hb0 hb2
  | cons r rows =>
    have h0 : r.length = w := hw r List.mem_cons_self
    subst h0
    exact q_int_rank_w (fun z => by cases z) hw hn hw2 hb hb0 hb2
end
section
open PySem PySem.Spec PyProof.Rows L2 DL RK
variable {p : Pot}
/-! ### Ratios -/
def eA (x : Int × Int) : D := .rat x.1 x.2
theorem mkRat_low {t b : Int} (hb : 0 < b) (h : b.natAbs.log2 < 8999) : mkRat [.int t, .int b] p = some (eA (low t b), p) := by
  show (if b ≠ 0 ∧ b.natAbs.log2 < 8999 then some (D.rat (t.fdiv (commonOf t b)) (b.fdiv (commonOf t b)), p) else none) = _
  rw [if_pos ⟨by omega, h⟩]
  have : commonOf t b = (Nat.gcd t.natAbs b.natAbs : Nat) := by unfold commonOf; rw [if_neg (by omega)]
  rw [this]; rfl
theorem low_one (n : Int) : low n 1 = (n, 1) := by
  unfold low
  simp
structure Rb (n : Nat) (x : Int × Int) : Prop where
  pos : 0 < x.2
  top : Bt n x.1
  bot : Bt n x.2
theorem Rb.mono {n m : Nat} {x : Int × Int} (h : Rb n x) (hn : n ≤ m) : Rb m x := ⟨h.pos, h.top.mono hn, h.bot.mono hn⟩
theorem low_bt {n : Nat} {a b : Int} (hb : 0 < b) (ha : Bt n a) (hbb : Bt n b) : Rb n (low a b) := by
  have hg : 0 < Nat.gcd a.natAbs b.natAbs := Nat.gcd_pos_of_pos_right _ (by omega)
  exact ⟨(low_nf hb).pos, fdiv_bt ha (Int.ofNat_dvd_left.mpr (Nat.gcd_dvd_left _ _)) (by omega), fdiv_bt hbb (Int.ofNat_dvd_left.mpr (Nat.gcd_dvd_right _ _)) (by omega)⟩
theorem fplus_bt {n m : Nat} {x y : Int × Int} (hx : Rb n x) (hy : Rb m y) : Rb (n + m + 1) (fplus x y) := by
  refine low_bt (Int.mul_pos hx.pos hy.pos) ?_ ((hx.bot.mul hy.bot).mono (by omega))
  exact (hx.top.mul hy.bot).add (by rw [Nat.add_comm]; exact hy.top.mul hx.bot)
theorem ftimes_bt {n m : Nat} {x y : Int × Int} (hx : Rb n x) (hy : Rb m y) : Rb (n + m) (ftimes x y) :=
  low_bt (Int.mul_pos hx.pos hy.pos) (hx.top.mul hy.top) (hx.bot.mul hy.bot)
def fsub (x y : Int × Int) : Int × Int := low (x.1 * y.2 - y.1 * x.2) (x.2 * y.2)
theorem fsub_val {x y : Int × Int} (hx : 0 < x.2) (hy : 0 < y.2) : val (fsub x y) = val x - val y := by
  have h := Int.mul_pos hx hy
  have h1 := cast_ne (show x.2 ≠ 0 by omega)
  have h2 := cast_ne (show y.2 ≠ 0 by omega)
  unfold fsub
  rw [low_val (by omega), Rat.intCast_sub, Rat.intCast_mul, Rat.intCast_mul, Rat.intCast_mul]
  unfold val
  grind
theorem fsub_bt {n m : Nat} {x y : Int × Int} (hx : Rb n x) (hy : Rb m y) : Rb (n + m + 1) (fsub x y) := by
  refine low_bt (Int.mul_pos hx.pos hy.pos) ?_ ((hx.bot.mul hy.bot).mono (by omega))
  exact (hx.top.mul hy.bot).sub (by rw [Nat.add_comm]; exact hy.top.mul hx.bot)
section
variable {x y : Int × Int} {n m : Nat} (hx : Rb n x) (hy : Rb m y) (hn : 0 < n) (hm : 0 < m) (hs : n + m ≤ 8900)
include hx hy hn hm hs
theorem den_ok : (x.2 * y.2).natAbs.log2 < 8999 := by
  have := (hx.bot.mul hy.bot).log (by omega)
  omega
theorem q_add : d_Rt_add [eA x, eA y] p = some (eA (fplus x y), p) := by
  refine x_def rfl (x_seq (x_asg (x_call rfl (q_toldR y.1 y.2)) rfl) (x_ret (x_call (x_cons (x_bin (x_bin rfl rfl (mul_ok hx.top hy.bot hn hm (by omega))) (x_bin rfl rfl (mul_ok hy.top hx.bot hm hn (by omega))) g_add) (x_cons (x_bin rfl rfl (mul_ok hx.bot hy.bot hn hm (by omega))) rfl)) ?_)))
  exact mkRat_low (Int.mul_pos hx.pos hy.pos) (den_ok hx hy hn hm hs)
theorem q_sub : d_Rt_sub [eA x, eA y] p = some (eA (fsub x y), p) := by
  refine x_def rfl (x_seq (x_asg (x_call rfl (q_toldR y.1 y.2)) rfl) (x_ret (x_call (x_cons (x_bin (x_bin rfl rfl (mul_ok hx.top hy.bot hn hm (by omega))) (x_bin rfl rfl (mul_ok hy.top hx.bot hm hn (by omega))) g_sub) (x_cons (x_bin rfl rfl (mul_ok hx.bot hy.bot hn hm (by omega))) rfl)) ?_)))
  exact mkRat_low (Int.mul_pos hx.pos hy.pos) (den_ok hx hy hn hm hs)
theorem q_mulI {k : Int} (hk : y = (k, 1)) : d_Rt_mul [eA x, .int k] p = some (eA (ftimes x y), p) := by
  subst hk
  refine x_def rfl (x_seq (x_asg (x_call rfl (q_told k)) rfl) (x_ret (x_call (x_cons (x_bin rfl rfl (mul_ok hx.top hy.top hn hm (by omega))) (x_cons (x_bin rfl rfl (mul_ok hx.bot hy.bot hn hm (by omega))) rfl)) ?_)))
  exact mkRat_low (Int.mul_pos hx.pos hy.pos) (den_ok hx hy hn hm hs)
end
theorem q_Req (x y : Int × Int) : d_Rt_eq [eA x, eA y] p = some (.bl (decide (x = y)), p) := by
  refine x_def rfl (x_seq rfl (x_ret ?_))
  refine x_and (x_bin rfl rfl g_eq) ?_
  by_cases h : x.1 = y.1
  · rw [if_pos (by simpa [RF.get] using h)]
    refine (x_bin rfl rfl g_eq).trans ?_
    have : decide (x.2 = y.2) = decide (x = y) := by
      apply decide_eq_decide.mpr
      exact ⟨fun h2 => Prod.ext h h2, fun h2 => by rw [h2]⟩
    rw [this]
  · rw [if_neg (by simpa [RF.get] using h)]
    rw [decide_eq_false (fun z => h (by rw [z]))]
/-! ### the law's fractions -/
theorem frac_go (A B : Int) : ∀ (n : Nat) (a b : Int), 0 ≤ a → 0 ≤ b → b.toNat ≤ n →
    ∃ k, dLoop (bOf (dBin gNe (dVar 3) (dK (.int 0)))) (dPar 2 3 (dVar 3) (dApp gInt (dCons (dBin gMod (dVar 2) (dVar 3)) (dNil)))) k [.sh (.int A), .sh (.int B), .sh (.int a), .sh (.int b)] p = some (.nx, [.sh (.int A), .sh (.int B), .sh (.int (Nat.gcd a.natAbs b.natAbs : Nat)), .sh (.int 0)], p) := by
  have tst : ∀ a b : Int, bOf (dBin gNe (dVar 3) (dK (.int 0))) [.sh (.int A), .sh (.int B), .sh (.int a), .sh (.int b)] p = some (!decide (b = 0), p) := fun a b => x_bOf (x_bin rfl rfl g_ne)
  have done : ∀ a : Int, 0 ≤ a → ∃ k, dLoop (bOf (dBin gNe (dVar 3) (dK (.int 0)))) (dPar 2 3 (dVar 3) (dApp gInt (dCons (dBin gMod (dVar 2) (dVar 3)) (dNil)))) k [.sh (.int A), .sh (.int B), .sh (.int a), .sh (.int 0)] p = some (.nx, [.sh (.int A), .sh (.int B), .sh (.int (Nat.gcd a.natAbs (0 : Int).natAbs : Nat)), .sh (.int 0)], p) := fun a ha => by
    refine ⟨1, ?_⟩
    unfold dLoop
    rw [tst a 0]
    have : ((Nat.gcd a.natAbs (0 : Int).natAbs : Nat) : Int) = a := by
      show ((Nat.gcd a.natAbs 0 : Nat) : Int) = a
      rw [Nat.gcd_zero_right]; omega
    rw [this]; rfl
  intro n
  induction n with
  | zero =>
    intro a b ha hb hn
    obtain rfl : b = 0 := by omega
    exact done a ha
  | succ n ih =>
    intro a b ha hb hn
    by_cases h0 : b = 0
    · subst h0; exact done a ha
    · have hm0 : 0 ≤ a.fmod b := Int.fmod_nonneg_of_pos a (by omega)
      have hm1 : a.fmod b < b := Int.fmod_lt_of_pos a (by omega)
      obtain ⟨k, hk⟩ := ih b (a.fmod b) hb hm0 (by omega)
      refine ⟨k + 1, ?_⟩
      unfold dLoop
      rw [tst a b, decide_eq_false h0]
      have hg : dPar 2 3 (dVar 3) (dApp gInt (dCons (dBin gMod (dVar 2) (dVar 3)) (dNil))) [.sh (.int A), .sh (.int B), .sh (.int a), .sh (.int b)] p = some (.nx, [.sh (.int A), .sh (.int B), .sh (.int b), .sh (.int (a.fmod b))], p) := by
        rw [ev_par, ev_var]
        show (dApp gInt (dCons (dBin gMod (dVar 2) (dVar 3)) (dNil)) _ p).map _ = _
        rw [x_app (d := .int (a.fmod b)) (x_cons (x_bin rfl rfl (show gMod (.int a) (.int b) = some (.int (a.fmod b)) from if_pos h0)) rfl) rfl]
        rfl
      show (dPar 2 3 (dVar 3) (dApp gInt (dCons (dBin gMod (dVar 2) (dVar 3)) (dNil))) _ p).bind _ = _
      rw [hg]
      show dLoop _ _ k _ p = _
      rw [hk]
      have e : Nat.gcd b.natAbs (a.fmod b).natAbs = Nat.gcd a.natAbs b.natAbs := by
        have h1 : (a.fmod b).natAbs = a.natAbs % b.natAbs := by
          rw [Int.fmod_eq_emod_of_nonneg _ hb]
          have := Int.natAbs_emod_of_nonneg ha b
          rw [this]
        rw [h1, Nat.gcd_comm a.natAbs, Nat.gcd_rec b.natAbs a.natAbs, Nat.gcd_comm]
      rw [e]
theorem q_frac {a b : Int} (hb : 0 < b) (h : b.natAbs.log2 < 8999) : d__law_frac [.int a, .int b] p = some (eQ (low a b), p) := by
  obtain ⟨k, hk⟩ := frac_go (p := p) a b b.toNat (if a < 0 then -a else a) b (by split <;> omega) (by omega) (Nat.le_refl _)
  have hg : 0 < Nat.gcd a.natAbs b.natAbs := Nat.gcd_pos_of_pos_right _ (by omega)
  have e1 : (if a < 0 then -a else a).natAbs = a.natAbs := by split <;> omega
  rw [e1] at hk
  have hsm : ((Nat.gcd a.natAbs b.natAbs : Nat) : Int).natAbs.log2 < 9000 := by
    rw [Int.natAbs_natCast]
    have h1 : Nat.gcd a.natAbs b.natAbs ≤ b.natAbs := Nat.gcd_le_right _ (by omega)
    have : Nat.gcd a.natAbs b.natAbs < 2 ^ 8999 := Nat.lt_of_le_of_lt h1 ((Nat.log2_lt (by omega)).mp h)
    have := (Nat.log2_lt (by omega : Nat.gcd a.natAbs b.natAbs ≠ 0)).mpr this
    omega
  refine x_def rfl (x_seq (ρ1 := [.sh (.int a), .sh (.int b), .sh (.int (if a < 0 then -a else a)), .sh (.int b)]) rfl (x_seq (dWhile_eq hk) (x_ret (x_tup (x_cons (x_bin rfl rfl (g_fdiv ⟨by omega, hsm⟩)) (x_cons (x_bin rfl rfl (g_fdiv ⟨by omega, hsm⟩)) rfl)) (by simp)))))
theorem at_eQ (x : Int × Int) : gIx (eQ x) (.int 0) = some (.int x.1) ∧ gIx (eQ x) (.int 1) = some (.int x.2) := ⟨rfl, rfl⟩
section
variable {x y : Int × Int} {n m : Nat} (hx : Rb n x) (hy : Rb m y) (hn : 0 < n) (hm : 0 < m) (hs : n + m ≤ 8900)
include hx hy hn hm hs
theorem q_plus : d__law_plus [eQ x, eQ y] p = some (eQ (fplus x y), p) :=
  x_def rfl (x_ret (x_call (x_cons (x_bin (x_bin (x_bin rfl rfl (at_eQ x).1) (x_bin rfl rfl (at_eQ y).2) (mul_ok hx.top hy.bot hn hm (by omega))) (x_bin (x_bin rfl rfl (at_eQ y).1) (x_bin rfl rfl (at_eQ x).2) (mul_ok hy.top hx.bot hm hn (by omega))) g_add)
    (x_cons (x_bin (x_bin rfl rfl (at_eQ x).2) (x_bin rfl rfl (at_eQ y).2) (mul_ok hx.bot hy.bot hn hm (by omega))) rfl)) (q_frac (Int.mul_pos hx.pos hy.pos) (den_ok hx hy hn hm hs))))
theorem q_times : d__law_times [eQ x, eQ y] p = some (eQ (ftimes x y), p) :=
  x_def rfl (x_ret (x_call (x_cons (x_bin (x_bin rfl rfl (at_eQ x).1) (x_bin rfl rfl (at_eQ y).1) (mul_ok hx.top hy.top hn hm (by omega)))
    (x_cons (x_bin (x_bin rfl rfl (at_eQ x).2) (x_bin rfl rfl (at_eQ y).2) (mul_ok hx.bot hy.bot hn hm (by omega))) rfl)) (q_frac (Int.mul_pos hx.pos hy.pos) (den_ok hx hy hn hm hs))))
end
end
section
open PySem PySem.Spec PyProof.Rows L2 DL RK
variable {p : Pot}
/-! ### sums -/
def eAs (l : List (Int × Int)) : D := .lst (l.map eA)
theorem sum_bits {n : Nat} : ∀ (l : List (Int × Int)) (k : Nat) (x : Int × Int), Rb (k * (n + 1) + 1) x → (∀ y ∈ l, Rb n y) → Rb ((k + l.length) * (n + 1) + 1) (l.foldl fplus x)
  | [], k, x, hx, _ => hx
  | y :: l, k, x, hx, h => by
    rw [List.foldl_cons]
    have := sum_bits l (k + 1) (fplus x y) ((fplus_bt hx (h y List.mem_cons_self)).mono (by rw [Nat.succ_mul]; omega)) fun z hz => h z (List.mem_cons_of_mem _ hz)
    rw [List.length_cons, show k + (l.length + 1) = k + 1 + l.length by omega]
    exact this
theorem fsum_bt {n : Nat} {l : List (Int × Int)} (h : ∀ y ∈ l, Rb n y) : Rb (l.length * (n + 1) + 1) (fsum l) := by
  have := sum_bits l 0 (0, 1) ⟨by decide, Bt.zero, Bt.one (by omega)⟩ h
  rw [Nat.zero_add] at this
  exact this
theorem q_law_sum {l : List (Int × Int)} {n : Nat} (h : ∀ y ∈ l, Rb n y) (hn : 0 < n) (hl : (l.length + 1) * (n + 1) ≤ 8000) : d__law_sum [eQs l] p = some (eQ (fsum l), p) := by
  obtain ⟨o, h1, _⟩ := forLi (t := tgName .al 2) (g := dAsg (dCall d__law_plus (dCons (dVar 1) (dCons (dVar 2) (dNil)))) (tgName .al 1)) (p := p) (enc := eQ) (R := fun (s : Int × Int) (o : Option D) => [.sh (eQs l), .sh (eQ s), jS o]) (step := fplus) (I := fun k s => Rb (k * (n + 1) + 1) s)
    (xs := l) (k := 0) (s := (0, 1)) (j := none) ⟨by decide, Bt.zero, Bt.one (by omega)⟩ fun i x hx s o hI => by
      have hlt : i < l.length := (List.getElem?_eq_some_iff.mp hx).1
      rw [Nat.zero_add] at hI ⊢
      have hy := h x (List.mem_of_getElem? hx)
      have hb : (i + 1) * (n + 1) ≤ (l.length + 1) * (n + 1) := Nat.mul_le_mul_right _ (by omega)
      rw [Nat.succ_mul] at hb
      refine ⟨(fplus_bt hI hy).mono (by rw [Nat.succ_mul]; omega), _, some (eQ x), rfl, x_asgN (x_call rfl (q_plus hI hy (by omega) hn (by omega)))⟩
  exact x_def rfl (x_seq (x_asgN (d := eQ (0, 1)) rfl) (x_seq (x_for rfl h1) (x_ret rfl)))
theorem q_total {l : List (Int × Int)} {n : Nat} (h : ∀ y ∈ l, Rb n y) (hn : 0 < n) (hl : (l.length + 1) * (n + 1) ≤ 8000) : d_total_of [eAs l] p = some (eA (fsum l), p) := by
  obtain ⟨o, h1, _⟩ := forLi (t := tgName .al 2) (g := dAsg (dBop d_Rt_add (dVar 1) (dVar 2)) (tgName .al 1)) (p := p) (enc := eA) (R := fun (s : Int × Int) (o : Option D) => [.sh (eAs l), .sh (eA s), jS o]) (step := fplus) (I := fun k s => Rb (k * (n + 1) + 1) s)
    (xs := l) (k := 0) (s := (0, 1)) (j := none) ⟨by decide, Bt.zero, Bt.one (by omega)⟩ fun i x hx s o hI => by
      have hlt : i < l.length := (List.getElem?_eq_some_iff.mp hx).1
      rw [Nat.zero_add] at hI ⊢
      have hy := h x (List.mem_of_getElem? hx)
      have hb : (i + 1) * (n + 1) ≤ (l.length + 1) * (n + 1) := Nat.mul_le_mul_right _ (by omega)
      rw [Nat.succ_mul] at hb
      refine ⟨(fplus_bt hI hy).mono (by rw [Nat.succ_mul]; omega), _, some (eA x), rfl, x_asgN (x_bop rfl rfl ⟨rfl, rfl⟩ (q_add hI hy (by omega) hn (by omega)))⟩
  have h0 : mkRat ([.int 0] ++ [.int 1]) p = some (eA (0, 1), p) := mkRat_low (t := 0) (b := 1) (by decide) (by decide)
  exact x_def rfl (x_seq (x_asgN (d := eA (0, 1)) (x_call rfl h0)) (x_seq (x_for rfl h1) (x_ret rfl)))
/-! ### lots -/
/-- a lot's places lie within n -/
def In (n : Nat) (lot : List Int) : Prop := ∀ a ∈ lot, 0 ≤ a ∧ a < n
def sel {α : Type} (l : List α) (d : α) (lot : List Int) : List α := lot.map fun a => l.getD a.toNat d
theorem at_map {α : Type} {f : α → D} {l : List α} {d : α} {a : Int} (h : 0 ≤ a ∧ a < l.length) : atI (l.map f) a = some (f (l.getD a.toNat d)) := by
  obtain ⟨k, rfl⟩ : ∃ k : Nat, a = k := ⟨a.toNat, by omega⟩
  rw [at_nat, List.getElem?_map]
  have hk : k < l.length := by omega
  rw [List.getElem?_eq_getElem hk, Int.toNat_natCast, List.getD_eq_getElem?_getD, List.getElem?_eq_getElem hk]; rfl
theorem sel_mem {α : Type} {l : List α} {d : α} {lot : List Int} {n : Nat} (h : In n lot) (hn : l.length = n) {x : α} (hx : x ∈ sel l d lot) : x ∈ l := by
  obtain ⟨a, ha, rfl⟩ := List.mem_map.mp hx
  obtain ⟨h0, h1⟩ := h a ha
  have hk : a.toNat < l.length := by omega
  rw [List.getD_eq_getElem?_getD, List.getElem?_eq_getElem hk]
  exact List.getElem_mem hk
theorem sel_len {α : Type} {l : List α} {d : α} {lot : List Int} : (sel l d lot).length = lot.length := List.length_map _
/-- [l[at] for at in lot] -/
theorem x_sel {α : Type} {f : α → D} {l : List α} {d : α} {lot : List Int} {n : Nat} (h : In n lot) (hn : l.length = n) (hl : lot.length ≤ 65536) {ρ : DEnv} (h0 : ρ[0]? = some (.sh (.lst (l.map f)))) (h1 : ρ[1]? = some (.sh (eI lot))) (hr : ρ.length = 3) (hno : noOw ρ [2] = true) :
    lComp [2] (lOf (dVar 1)) (tgName .al 2) (bTrue) (dBin gIx (dVar 0) (dVar 2)) ρ p = some ((sel l d lot).map f, p) := by
  refine x_comp (ds := lot.map D.int) hno (x_lOf (by rw [ev_var, h1]; rfl)) ?_ (by rw [List.length_map, sel_len]; exact hl)
  unfold sel
  rw [List.map_map]
  refine compM D.int (fun a => f (l.getD a.toNat d)) fun a ha => ⟨_, rfl, ?_⟩
  have e0 : ((wipeD ρ [2]).set 2 (slotOf .al (.int a)))[0]? = some (.sh (.lst (l.map f))) := by
    rw [List.getElem?_set_ne (by decide)]
    show ((ρ.set 2 .no))[0]? = _
    rw [List.getElem?_set_ne (by decide), h0]
  have e2 : ((wipeD ρ [2]).set 2 (slotOf .al (.int a)))[2]? = some (.sh (.int a)) := by
    rw [List.getElem?_set_self]; rfl
    show 2 < (ρ.set 2 .no).length
    rw [List.length_set, hr]; decide
  refine x_bin (d1 := .lst (l.map f)) (d2 := .int a) (p1 := p) (by rw [ev_var, e0]) (by rw [ev_var, e2]) (at_map ?_)
  obtain ⟨h2, h3⟩ := h a ha
  exact ⟨h2, by omega⟩
theorem q_weight_in {ws : List (Int × Int)} {lot : List Int} {n m : Nat} (h : ∀ y ∈ ws, Rb n y) (hn : 0 < n) (hm : ws.length = m) (hin : In m lot) (hl : (lot.length + 1) * (n + 1) ≤ 8000) : d_weight_in [eAs ws, eI lot] p = some (eA (fsum (sel ws (0, 1) lot)), p) := by
  have hll : lot.length ≤ 65536 := by
    have : lot.length + 1 ≤ (lot.length + 1) * (n + 1) := Nat.le_mul_of_pos_right _ (by omega)
    omega
  refine x_def rfl (x_ret (x_call (x_cons (x_eL (x_sel (f := eA) (d := (0, 1)) hin hm hll rfl rfl rfl rfl)) rfl) (q_total (n := n) (l := sel ws (0, 1) lot) (fun y hy => h y (sel_mem hin hm hy)) hn (by rw [sel_len]; exact hl))))
theorem q_law_weight {ws : List (Int × Int)} {lot : List Int} {n m : Nat} (h : ∀ y ∈ ws, Rb n y) (hn : 0 < n) (hm : ws.length = m) (hin : In m lot) (hl : (lot.length + 1) * (n + 1) ≤ 8000) : d__law_weight [eQs ws, eI lot] p = some (eQ (fsum (sel ws (0, 1) lot)), p) := by
  have hll : lot.length ≤ 65536 := by
    have : lot.length + 1 ≤ (lot.length + 1) * (n + 1) := Nat.le_mul_of_pos_right _ (by omega)
    omega
  refine x_def rfl (x_ret (x_call (x_cons (x_eL (x_sel (f := eQ) (d := (0, 1)) hin hm hll rfl rfl rfl rfl)) rfl) (q_law_sum (n := n) (l := sel ws (0, 1) lot) (fun y hy => h y (sel_mem hin hm hy)) hn (by rw [sel_len]; exact hl))))
theorem q_rank_in {rows : List (List Int)} {lot : List Int} {w b m : Nat} (hw : ∀ r ∈ rows, r.length = w) (hm : rows.length = m) (hin : In m lot) (hl : lot.length ≤ 60000) (hw2 : w ≤ 4) (hb : ∀ r ∈ rows, ∀ x ∈ r, Bt b x) (hb0 : 0 < b) (hb2 : b ≤ 200) :
    d_rank_in [eR rows, eI lot] p = some (.int (intRank (sel rows [] lot) : Nat), p) :=
  x_def rfl (x_ret (x_call (x_cons (x_eL (x_sel (f := eI) (d := []) hin hm (by omega) rfl rfl rfl rfl)) rfl) (q_int_rank (fun r hr => hw r (sel_mem hin hm hr)) (by rw [sel_len]; exact hl) hw2 (fun r hr => hb r (sel_mem hin hm hr)) hb0 hb2)))
/-! ### all lots -/
theorem lots_go (n : Nat) : lotsOf n = (List.range n).foldl (fun f k => f ++ f.map fun l => l ++ [(k : Int)]) [[]] := by
  induction n with
  | zero => rfl
  | succ n ih =>
    rw [List.range_succ, List.foldl_append, ← ih]; rfl
theorem add_eI {l : List Int} {k : Nat} (h : l.length ≤ 60000) : gAdd (eI l) (.lst [.int (k : Nat)]) = some (eI (l ++ [(k : Int)])) := by
  show (if (l.map D.int).length + 1 ≤ 65536 then some (D.lst (l.map D.int ++ [.int (k : Int)])) else none) = _
  rw [if_pos (by rw [List.length_map]; omega)]
  unfold eI
  rw [List.map_append]; rfl
theorem lots_short {n : Nat} {l : List Int} (h : l ∈ lotsOf n) : l.length ≤ n := by
  induction n generalizing l with
  | zero =>
    have : l = [] := by simpa [lotsOf] using h
    rw [this]; exact Nat.le_refl _
  | succ n ih =>
    rcases List.mem_append.mp (show l ∈ lotsOf n ++ (lotsOf n).map (fun l => l ++ [(n : Int)]) from h) with q | q
    · have := ih q; omega
    · obtain ⟨m, hm, rfl⟩ := List.mem_map.mp q
      have := ih hm
      simp; omega
theorem q_lots_of {n : Nat} (hn : n ≤ 10) : d_lots_of [.int (n : Nat)] p = some (eR (lotsOf n), p) := by
  obtain ⟨o, h1, h2⟩ := forLi (t := tgName .al 2) (g := dExtend 1 (lComp [3] (lOwn 1) (tgName .al 3) (bTrue) (dBin gAdd (dVar 3) (dLst (dCons (dVar 2) (dNil)))))) (p := p) (enc := fun i : Nat => D.int (i : Nat)) (R := fun (f : List (List Int)) (o : Option D) => [.sh (.int (n : Nat)), .ow (f.map eI), jS o, .no])
    (step := fun f k => f ++ f.map fun l => l ++ [(k : Int)]) (I := fun k f => f = lotsOf k) (xs := List.range n) (k := 0) (s := [[]]) (j := none) rfl fun i x hx f o hI => by
      obtain ⟨hi1, hi2⟩ := List.getElem?_eq_some_iff.mp hx
      obtain rfl : x = i := by simpa using hi2.symm
      rw [Nat.zero_add] at hI ⊢
      subst hI
      refine ⟨rfl, _, some (.int (x : Nat)), rfl, ?_⟩
      have hx10 : x ≤ 9 := by
        have : x < n := by simpa using hi1
        omega
      have h10 : (lotsOf x).length ≤ 512 := by rw [lots_len]; exact Nat.pow_le_pow_right (n := 2) (by decide) hx10
      have hc : lComp [3] (lOwn 1) (tgName .al 3) (bTrue) (dBin gAdd (dVar 3) (dLst (dCons (dVar 2) (dNil)))) [.sh (.int (n : Nat)), .ow ((lotsOf x).map eI), .sh (.int (x : Nat)), .no] p = some (((lotsOf x).map fun l => l ++ [(x : Int)]).map eI, p) := by
        refine x_comp rfl rfl ?_ (by simp; omega)
        rw [List.map_map]
        refine compM eI (fun l => eI (l ++ [(x : Int)])) fun l hl => ⟨_, rfl, x_bin rfl (x_lst rfl (by simp)) (add_eI (by have := lots_short hl; omega))⟩
      show dExtend 1 _ [.sh (.int (n : Nat)), .ow ((lotsOf x).map eI), .sh (.int (x : Nat)), .no] p = _
      rw [ev_ext]
      show (lComp _ _ _ _ _ _ p).bind _ = _
      rw [hc]
      show (if _ then _ else _) = _
      rw [if_pos (by simp; omega), List.map_append]; rfl
  rw [← lots_go] at h1
  refine x_def rfl (x_seq (x_own (ds := [eI []]) rfl) (x_seq (x_for ((x_range1 rfl (by omega)).trans (by rw [Int.toNat_natCast, dInts_map])) h1) (x_ret rfl)))
end
section
open PySem PySem.Spec PyProof.Rows L2 DL RK
variable {p : Pot}
theorem rk_small {rows : List (List Int)} {w : Nat} (hw : ∀ r ∈ rows, r.length = w) (hn : rows.length ≤ 10) : intRank rows ≤ 10 := by
  rw [intRank_eq hw]
  have := rk_le (rows.map vi)
  rw [List.length_map] at this
  omega
theorem rb_nat {k : Nat} (h : k ≤ 10) : Rb 4 ((k : Int), 1) := ⟨by show (0 : Int) < 1; decide, by unfold Bt; show (k : Int).natAbs < 2 ^ 4; omega, Bt.one (by decide)⟩
theorem rb_neg {k : Nat} (h : k ≤ 10) : Rb 4 (0 - (k : Int), 1) := ⟨by show (0 : Int) < 1; decide, by unfold Bt; show (0 - (k : Int)).natAbs < 2 ^ 4; omega, Bt.one (by decide)⟩
/-! ### the excess, the program's -/
def excP (rows : List (List Int)) (ws : List (Int × Int)) (lot : List Int) : Int × Int := fsub (ftimes (fsum (sel ws (0, 1) lot)) ((intRank rows : Nat), 1)) (ftimes (fsum ws) ((intRank (sel rows [] lot) : Nat), 1))
/-- the rows, the weights of a law -/
structure Rw (rows : List (List Int)) (ws : List (Int × Int)) (w b : Nat) : Prop where
  wide : ∀ r ∈ rows, r.length = w
  w4 : w ≤ 4
  bits : ∀ r ∈ rows, ∀ x ∈ r, Bt b x
  b0 : 0 < b
  b1 : b ≤ 18
  many : rows.length ≤ 8
  same : ws.length = rows.length
  wb : ∀ y ∈ ws, Rb 8 y
section
variable {rows : List (List Int)} {ws : List (Int × Int)} {w b : Nat} {lot : List Int} (G : Rw rows ws w b)
include G
theorem sum_w (h : ∀ y ∈ ws, Rb 8 y) {l : List (Int × Int)} (hl : l.length ≤ 8) (hs : ∀ y ∈ l, Rb 8 y) : Rb 80 (fsum l) := (fsum_bt hs).mono (by have : l.length * 9 ≤ 8 * 9 := Nat.mul_le_mul_right _ hl; omega)
theorem lot_sum (hin : In rows.length lot) (hl : lot.length ≤ 8) : Rb 80 (fsum (sel ws (0, 1) lot)) :=
  sum_w G G.wb (by rw [sel_len]; exact hl) fun y hy => G.wb y (sel_mem hin G.same hy)
theorem all_sum : Rb 80 (fsum ws) := sum_w G G.wb (by rw [G.same]; exact G.many) G.wb
theorem rank_all : intRank rows ≤ 10 := rk_small G.wide (by have := G.many; omega)
theorem rank_lot (hin : In rows.length lot) (hl : lot.length ≤ 8) : intRank (sel rows [] lot) ≤ 10 := rk_small (w := w) (fun r hr => G.wide r (sel_mem hin rfl hr)) (by rw [sel_len]; omega)
theorem q_excess_in (hin : In rows.length lot) (hl : lot.length ≤ 8) : d_excess_in [eR rows, eAs ws, eI lot] p = some (eA (excP rows ws lot), p) := by
  have r1 := rb_nat (rank_all G)
  have r2 := rb_nat (rank_lot G hin hl)
  have s1 := lot_sum G hin hl
  have s2 := all_sum G
  have hm := G.many
  refine x_def rfl (x_ret (x_bop (x_bop (x_call rfl (q_weight_in (n := 8) G.wb (by decide) G.same hin (by have : (lot.length + 1) * 9 ≤ 9 * 9 := Nat.mul_le_mul_right _ (by omega); omega))) (x_call rfl (q_int_rank G.wide (by omega) G.w4 G.bits G.b0 (by have := G.b1; omega))) ⟨rfl, rfl⟩ (q_mulI s1 r1 (by decide) (by decide) (by decide) rfl))
    (x_bop (x_call rfl (q_total (n := 8) G.wb (by decide) (by rw [G.same]; have : (rows.length + 1) * 9 ≤ 9 * 9 := Nat.mul_le_mul_right _ (by omega); omega))) (x_call rfl (q_rank_in G.wide rfl hin (by omega) G.w4 G.bits G.b0 (by have := G.b1; omega))) ⟨rfl, rfl⟩ (q_mulI s2 r2 (by decide) (by decide) (by decide) rfl)) ⟨rfl, rfl⟩ ?_))
  exact q_sub (ftimes_bt s1 r1) (ftimes_bt s2 r2) (by decide) (by decide) (by decide)
theorem exc_nf (hin : In rows.length lot) (hl : lot.length ≤ 8) : Nf (excP rows ws lot) ∧ Rb 200 (excP rows ws lot) := by
  have r1 := rb_nat (rank_all G)
  have r2 := rb_nat (rank_lot G hin hl)
  have a1 := ftimes_bt (lot_sum G hin hl) r1
  have a2 := ftimes_bt (all_sum G) r2
  exact ⟨low_nf (Int.mul_pos a1.pos a2.pos), (fsub_bt a1 a2).mono (by decide)⟩
end
/-! ### the law's own elimination -/
theorem less_bt {row key : List (Int × Int)} {j n : Nat} (hr : ∀ x ∈ row, Rb n x) (hk : ∀ x ∈ key, Rb n x) (hj : (key.getD j (0, 1)).1 ≠ 0) (hn : 0 < n) : Rb (2 * n + 1) (lessBy row key j) ∧ ∀ x ∈ lawLess row key j, Rb (4 * n + 2) x := by
  have z0 : Rb n (0, 1) := ⟨by show (0 : Int) < 1; decide, Bt.zero, Bt.one hn⟩
  have gd : ∀ {r : List (Int × Int)}, (∀ x ∈ r, Rb n x) → ∀ i, Rb n (r.getD i (0, 1)) := fun {r} h i => by
    rw [List.getD_eq_getElem?_getD]
    cases e : r[i]? with
    | none => exact z0
    | some x => exact h x (List.mem_of_getElem? e)
  have a1 := gd hr j
  have a2 := gd hk j
  have hb : Rb (2 * n + 1) (lessBy row key j) := by
    unfold lessBy
    have ha : 0 < ((key.getD j (0, 1)).1.natAbs : Int) := by omega
    have hx := low_bt (n := 2 * n + 1) (a := 0 - (row.getD j (0, 1)).1 * (key.getD j (0, 1)).2) (Int.mul_pos a1.pos ha)
      (by rw [show 2 * n + 1 = n + n + 1 by omega]; exact Bt.sub (Bt.zero) (a1.top.mul a2.bot)) ((a1.bot.mul (m := n) (show Bt n ((key.getD j (0, 1)).1.natAbs : Int) by have := a2.top; unfold Bt at *; rw [Int.natAbs_natCast]; exact this)).mono (by omega))
    dsimp only
    split
    · exact hx
    · exact ⟨hx.pos, by have h1 := hx.top; unfold Bt at *; dsimp only; rw [show ∀ z : Int, (0 - z).natAbs = z.natAbs from fun z => by omega]; exact h1, hx.bot⟩
  refine ⟨hb, fun x hx => ?_⟩
  obtain ⟨z, hz, rfl⟩ := List.mem_map.mp hx
  obtain ⟨z1, z2⟩ := List.of_mem_zip (a := z.1) (b := z.2) hz
  exact (fplus_bt (hr _ z1) (ftimes_bt hb (hk _ z2))).mono (by omega)
theorem at_eQs {r : List (Int × Int)} {j : Nat} (h : j < r.length) : gIx (eQs r) (.int (j : Nat)) = some (eQ (r.getD j (0, 1))) := by
  show atI (r.map eQ) (j : Int) = _
  exact at_map ⟨by omega, by omega⟩
theorem zip_encQ {row head : List (Int × Int)} : ((row.map eQ).zip (head.map eQ)).map (fun z => D.tup [z.1, z.2]) = (row.zip head).map fun z => D.tup [eQ z.1, eQ z.2] := by
  rw [List.zip_map, List.map_map]; rfl
theorem q_law_less {row key : List (Int × Int)} {j n w : Nat} (hr : row.length = w) (hk : key.length = w) (hw : w ≤ 60000) (hj : j < w) (hb : ∀ x ∈ row, Rb n x) (hb2 : ∀ x ∈ key, Rb n x) (hn : 0 < n) (hn2 : n ≤ 1200) (hne : (key.getD j (0, 1)).1 ≠ 0) :
    d__law_less [eQs row, eQs key, .int (j : Nat)] p = some (eQs (lawLess row key j), p) := by
  have ar := at_eQs (r := row) (j := j) (by omega)
  have ak := at_eQs (r := key) (j := j) (by omega)
  have gd : ∀ {r : List (Int × Int)}, r.length = w → (∀ x ∈ r, Rb n x) → Rb n (r.getD j (0, 1)) := fun {r} hl h => by
    rw [List.getD_eq_getElem?_getD, List.getElem?_eq_getElem (by omega)]
    exact h _ (List.getElem_mem _)
  have r1 := gd hr hb
  have r2 := gd hk hb2
  obtain ⟨hby, _⟩ := less_bt (j := j) hb hb2 hne hn
  -- the quotient
  have habs : gAbs [.int (key.getD j (0, 1)).1] = some (.int ((key.getD j (0, 1)).1.natAbs : Int)) := by
    show some (D.int _) = _
    have : (if (key.getD j (0, 1)).1 < 0 then -(key.getD j (0, 1)).1 else (key.getD j (0, 1)).1) = ((key.getD j (0, 1)).1.natAbs : Int) := by split <;> omega
    rw [this]
  have hna : Bt n ((key.getD j (0, 1)).1.natAbs : Int) := by have := r2.top; unfold Bt at *; rw [Int.natAbs_natCast]; exact this
  have hpos : 0 < (row.getD j (0, 1)).2 * ((key.getD j (0, 1)).1.natAbs : Int) := Int.mul_pos r1.pos (by omega)
  have e1 : dCall d__law_frac (dCons (dBin gSub (dK (.int 0)) (dBin gMul (dBin gIx (dBin gIx (dVar 0) (dVar 2)) (dK (.int 0))) (dBin gIx (dBin gIx (dVar 1) (dVar 2)) (dK (.int 1))))) (dCons (dBin gMul (dBin gIx (dBin gIx (dVar 0) (dVar 2)) (dK (.int 1))) (dApp gAbs (dCons (dBin gIx (dBin gIx (dVar 1) (dVar 2)) (dK (.int 0))) (dNil)))) (dNil)))
      (startD n__law_less false [eQs row, eQs key, .int (j : Nat)]) p = some (eQ (low (0 - (row.getD j (0, 1)).1 * (key.getD j (0, 1)).2) ((row.getD j (0, 1)).2 * ((key.getD j (0, 1)).1.natAbs : Int))), p) := by
    refine x_call (x_cons (x_bin rfl (x_bin (x_bin (x_bin rfl rfl ar) rfl (at_eQ _).1) (x_bin (x_bin rfl rfl ak) rfl (at_eQ _).2) (mul_ok r1.top r2.bot hn hn (by omega))) g_sub) (x_cons (x_bin (x_bin (x_bin rfl rfl ar) rfl (at_eQ _).2) (x_app (x_cons (x_bin (x_bin rfl rfl ak) rfl (at_eQ _).1) rfl) habs) (mul_ok r1.bot hna hn hn (by omega))) rfl)) (q_frac hpos ?_)
    have := (r1.bot.mul hna).log (by omega)
    omega
  have e2 : dIf (bOf (dBin gGt (dBin gIx (dBin gIx (dVar 1) (dVar 2)) (dK (.int 0))) (dK (.int 0)))) (dVar 3) (dTup (dCons (dBin gSub (dK (.int 0)) (dBin gIx (dVar 3) (dK (.int 0)))) (dCons (dBin gIx (dVar 3) (dK (.int 1))) (dNil))))
      [.sh (eQs row), .sh (eQs key), .sh (.int (j : Nat)), .sh (eQ (low (0 - (row.getD j (0, 1)).1 * (key.getD j (0, 1)).2) ((row.getD j (0, 1)).2 * ((key.getD j (0, 1)).1.natAbs : Int)))), .no, .no] p = some (eQ (lessBy row key j), p) := by
    have tst : bOf (dBin gGt (dBin gIx (dBin gIx (dVar 1) (dVar 2)) (dK (.int 0))) (dK (.int 0))) [.sh (eQs row), .sh (eQs key), .sh (.int (j : Nat)), .sh (eQ (low (0 - (row.getD j (0, 1)).1 * (key.getD j (0, 1)).2) ((row.getD j (0, 1)).2 * ((key.getD j (0, 1)).1.natAbs : Int)))), .no, .no] p = some (decide (0 < (key.getD j (0, 1)).1), p) :=
      x_bOf (x_bin (x_bin (x_bin rfl rfl ak) rfl (at_eQ _).1) rfl g_rel)
    unfold lessBy
    by_cases h : 0 < (key.getD j (0, 1)).1
    · rw [decide_eq_true h] at tst
      dsimp only
      rw [if_pos h]
      exact x_ifT tst rfl
    · rw [decide_eq_false h] at tst
      dsimp only
      rw [if_neg h]
      exact x_ifF tst (x_tup (x_cons (x_bin rfl (x_bin rfl rfl (at_eQ _).1) g_sub) (x_cons (x_bin rfl rfl (at_eQ _).2) rfl)) (by simp))
  refine x_def rfl (x_seq (x_asgN e1) (x_seq (x_asgN e2) (x_ret ((x_eL (x_comp (es := (lawLess row key j).map eQ) rfl ((x_zip (x_lOf rfl) (x_lOf rfl)).trans (by rw [zip_encQ])) ?_ ?_)).trans rfl))))
  · unfold lawLess
    rw [List.map_map]
    refine compM (fun z : (Int × Int) × (Int × Int) => D.tup [eQ z.1, eQ z.2]) (fun z => eQ (fplus z.1 (ftimes (lessBy row key j) z.2))) fun z hz => ⟨_, rfl, ?_⟩
    obtain ⟨z1, z2⟩ := List.of_mem_zip (a := z.1) (b := z.2) hz
    exact x_call (x_cons rfl (x_cons (x_call rfl (q_times hby (hb2 _ z2) (by omega) hn (by omega))) rfl)) (q_plus (hb _ z1) (ftimes_bt hby (hb2 _ z2)) hn (by omega) (by omega))
  · rw [List.length_map, less_len (by rw [hr, hk])]; omega
end
section
open PySem PySem.Spec PyProof.Rows L2 DL RK
variable {p : Pot}
/-! ### places in a list -/
theorem zip_ne {α : Type} : ∀ (l : List α) (k i : Nat), ((l.zipIdx k).filter fun y => decide (y.2 ≠ k + i)).map (·.1) = l.take i ++ l.drop (i + 1)
  | [], k, i => by simp
  | x :: l, k, 0 => by
    rw [List.zipIdx_cons, List.filter_cons_of_neg (by simp)]
    have : (l.zipIdx (k + 1)).filter (fun y => decide (y.2 ≠ k + 0)) = l.zipIdx (k + 1) := List.filter_eq_self.mpr fun y hy => by
      have h1 := List.mem_zipIdx (x := y.1) (i := y.2) hy
      have : y.2 ≠ k := by omega
      simp [this]
    rw [this]
    simp
  | x :: l, k, i + 1 => by
    rw [List.zipIdx_cons, List.filter_cons_of_pos (by simp)]
    have := zip_ne l (k + 1) i
    rw [show k + 1 + i = k + (i + 1) by omega] at this
    rw [List.map_cons, this]
    simp
theorem zip_head {α : Type} (P : α → Bool) : ∀ (l : List α) (k : Nat), (((l.zipIdx k).filter fun y => P y.1).map (·.2)).head? = (l.findIdx? P).map (k + ·)
  | [], k => rfl
  | x :: l, k => by
    rw [List.zipIdx_cons, List.findIdx?_cons]
    by_cases h : P x = true
    · rw [List.filter_cons_of_pos (by exact h), if_pos h]; rfl
    · rw [List.filter_cons_of_neg (by exact h), if_neg h, zip_head P l (k + 1)]
      cases l.findIdx? P with
      | none => rfl
      | some i => show some (k + 1 + i) = some (k + (i + 1)); rw [show k + 1 + i = k + (i + 1) by omega]
/-! ### _law_put_out -/
def eP (s : List (List (Int × Int)) × List (List (Int × Int))) (o : Option D × Option D × Option D) (rows : List (List (Int × Int))) : DEnv := [.sh (eQR rows), jS o.1, .sh (eQR s.1), .ow (s.2.map eQs), jS o.2.1, jS o.2.2, .no, .no]
theorem pl_eQs (l : List (Int × Int)) : plD (eQs l) = true ∧ dpD (eQs l) ≤ 2 :=
  ⟨by unfold eQs plD; exact pl_map fun x _ => (pl_eQ x).1, by unfold eQs dpD; exact Nat.succ_le_succ (dp_map fun x _ => (pl_eQ x).2)⟩
theorem pl_eQR (l : List (List (Int × Int))) : plD (eQR l) = true ∧ dpD (eQR l) ≤ 3 :=
  ⟨by unfold eQR plD; exact pl_map fun x _ => (pl_eQs x).1, by unfold eQR dpD; exact Nat.succ_le_succ (dp_map fun x _ => (pl_eQs x).2)⟩
theorem eQ_inj {x y : Int × Int} : eQ x = eQ y ↔ x = y := by
  unfold eQ
  constructor
  · intro h
    injection h with h
    injection h with h1 h2
    injection h2 with h2 _
    injection h1 with h1
    injection h2 with h2
    exact Prod.ext h1 h2
  · rintro rfl; rfl
theorem eQs_inj {l m : List (Int × Int)} : eQs l = eQs m ↔ l = m := by
  unfold eQs
  constructor
  · intro h
    injection h with h
    exact map_inj (fun a b e => eQ_inj.mp e) h
  · rintro rfl; rfl
theorem neQ_nil {rows : List (List (Int × Int))} : gNe (eQR rows) (.lst []) = some (.bl (!decide (rows = []))) := by
  refine gNe_pl (pl_eQR rows).1 rfl (Nat.le_trans (pl_eQR rows).2 (by decide)) (by simp [dpD, dpAll]) ?_
  rw [decide_eq_true_iff]
  exact ⟨fun h => by rw [h]; rfl, fun h => by unfold eQR at h; injection h with h; exact map_inj (fun a b e => eQs_inj.mp e) (m := []) h⟩
theorem neI_nil {l : List Int} : gNe (eI l) (.lst []) = some (.bl (!decide (l = []))) := by
  refine gNe_pl (pl_eI l).1 rfl (Nat.le_trans (pl_eI l).2 (by decide)) (by simp [dpD, dpAll]) ?_
  rw [decide_eq_true_iff]
  exact ⟨fun h => by rw [h]; rfl, fun h => (eI_inj (m := [])).mp h⟩
theorem enum_encQ {rows : List (List (Int × Int))} : ((rows.map eQs).zipIdx).map (fun y => D.tup [.int (y.2 : Nat), y.1]) = rows.zipIdx.map fun y => D.tup [.int (y.2 : Nat), eQs y.1] := by
  rw [List.zipIdx_map, List.map_map]; rfl
noncomputable abbrev poBody : SF := dSeq (dAsg (eL (lComp [7, 6] (lEnum (lOf (dVar 2))) (tgTup .al [7, 6]) (bOf (dBin gNe (dBin gIx (dBin gIx (dVar 6) (dVar 1)) (dK (.int 0))) (dK (.int 0)))) (dVar 7))) (tgName .al 4)) (dIte (bOf (dBin gNe (dVar 4) (dLst (dNil)))) (dSeq (dAsg (dBin gIx (dVar 2) (dBin gIx (dVar 4) (dK (.int 0)))) (tgName .al 5)) (dSeq (dAppend 3 (dVar 5)) (dAsg (eL (lComp [7, 6] (lEnum (lOf (dVar 2))) (tgTup .al [7, 6]) (bOf (dBin gNe (dVar 7) (dBin gIx (dVar 4) (dK (.int 0))))) (dCall d__law_less (dCons (dVar 6) (dCons (dVar 5) (dCons (dVar 1) (dNil))))))) (tgName .al 2)))) (dNext))
def bits4 (b : Nat) : Nat → Nat
  | 0 => b
  | k + 1 => 4 * bits4 b k + 2
theorem bits4_mono {b : Nat} : ∀ {k m : Nat}, k ≤ m → bits4 b k ≤ bits4 b m
  | k, 0, h => by have : k = 0 := by omega
                  rw [this]; exact Nat.le_refl _
  | k, m + 1, h => by
    by_cases e : k = m + 1
    · rw [e]; exact Nat.le_refl _
    · have := bits4_mono (b := b) (k := k) (m := m) (by omega)
      show _ ≤ 4 * bits4 b m + 2
      omega
theorem po_body {rows : List (List (Int × Int))} {w b j : Nat} (hw2 : w ≤ 4) (hb0 : 0 < b) (hb2 : b ≤ 18) (s : List (List (Int × Int)) × List (List (Int × Int))) (o : Option D × Option D × Option D) (hj : j < w)
    (hI : (∀ r ∈ s.1, r.length = w ∧ ∀ x ∈ r, Rb (bits4 b j) x) ∧ s.1.length ≤ 60000 ∧ s.2.length ≤ j) :
    ((∀ r ∈ ((EF w).step j s).1, r.length = w ∧ ∀ x ∈ r, Rb (bits4 b (j + 1)) x) ∧ ((EF w).step j s).1.length ≤ 60000 ∧ ((EF w).step j s).2.length ≤ j + 1) ∧
    ∃ r o', tgName .al 1 (eP s o rows) (.int (j : Nat)) = some r ∧ poBody r p = some (.nx, eP ((EF w).step j s) o' rows, p) := by
  obtain ⟨hI, hlen, hf⟩ := hI
  have hb3 : bits4 b j ≤ 1200 := Nat.le_trans (bits4_mono (m := 3) (by omega)) (by show 4 * (4 * (4 * b + 2) + 2) + 2 ≤ 1200; omega)
  have hbp : 0 < bits4 b j := Nat.lt_of_lt_of_le hb0 (bits4_mono (k := 0) (Nat.zero_le j))
  -- the heads
  let hs : List Int := ((s.1.zipIdx.filter fun y => (EF w).nz j y.1).map (·.2)).map fun i : Nat => (i : Int)
  have hh : eL (lComp [7, 6] (lEnum (lOf (dVar 2))) (tgTup .al [7, 6]) (bOf (dBin gNe (dBin gIx (dBin gIx (dVar 6) (dVar 1)) (dK (.int 0))) (dK (.int 0)))) (dVar 7)) [.sh (eQR rows), .sh (.int (j : Nat)), .sh (eQR s.1), .ow (s.2.map eQs), jS o.2.1, jS o.2.2, .no, .no] p = some (eI hs, p) := by
    have hc := compL (t := tgTup .al [7, 6]) (c := bOf (dBin gNe (dBin gIx (dBin gIx (dVar 6) (dVar 1)) (dK (.int 0))) (dK (.int 0)))) (f := dVar 7) (ρ := wipeD [.sh (eQR rows), .sh (.int (j : Nat)), .sh (eQR s.1), .ow (s.2.map eQs), jS o.2.1, jS o.2.2, .no, .no] [7, 6]) (p := p)
      (enc := fun y : List (Int × Int) × Nat => D.tup [.int (y.2 : Nat), eQs y.1]) (b := fun y => (EF w).nz j y.1) (g := fun y => .int (y.2 : Nat)) (xs := s.1.zipIdx) fun y hy => ⟨_, rfl, by
        have hm : y.1 ∈ s.1 := by
          have := List.mem_zipIdx (x := y.1) (i := y.2) (xs := s.1) hy
          obtain ⟨_, _, e⟩ := this
          rw [e]; exact List.getElem_mem _
        have ay := at_eQs (r := y.1) (j := j) (by rw [(hI _ hm).1]; exact hj)
        refine (x_bOf (x_bin (x_bin (x_bin rfl rfl ay) rfl (at_eQ _).1) rfl g_ne)).trans ?_
        show _ = some (decide ((y.1.getD j (0, 1)).1 ≠ 0), p)
        rw [decide_not], fun _ => rfl⟩
    refine (x_eL (x_comp (es := hs.map D.int) (by cases o.2.1 <;> cases o.2.2 <;> rfl) ((x_enum (x_lOf rfl)).trans (by rw [enum_encQ])) ?_ ?_)).trans rfl
    · rw [hc]
      show _ = some (List.map D.int (List.map _ (List.map _ _)), p)
      rw [List.map_map, List.map_map]; rfl
    · rw [List.length_map, List.length_map, List.length_map]
      have := List.length_filter_le (fun y => (EF w).nz j y.1) s.1.zipIdx
      rw [List.length_zipIdx] at this
      omega
  have hhead : hs.head? = (s.1.findIdx? ((EF w).nz j)).map (fun i : Nat => ((i : Nat) : Int)) := by
    have := zip_head ((EF w).nz j) s.1 0
    show (List.map _ (List.map _ _)).head? = _
    rw [List.head?_map, this]
    cases s.1.findIdx? ((EF w).nz j) with
    | none => rfl
    | some i => show some ((0 + i : Nat) : Int) = some (i : Int); rw [Nat.zero_add]
  unfold Elm.step
  cases e : s.1.findIdx? ((EF w).nz j) with
  | none =>
    rw [e] at hhead
    have hnil : hs = [] := by
      cases h : hs with
      | nil => rfl
      | cons x xs => rw [h] at hhead; cases hhead
    refine ⟨⟨fun r hr => ⟨(hI r hr).1, fun x hx => ((hI r hr).2 x hx).mono (by show _ ≤ 4 * bits4 b j + 2; omega)⟩, hlen, by show s.2.length ≤ j + 1; omega⟩, _, (some (.int (j : Nat)), some (eI hs), o.2.2), rfl, ?_⟩
    have tst : bOf (dBin gNe (dVar 4) (dLst (dNil))) [.sh (eQR rows), .sh (.int (j : Nat)), .sh (eQR s.1), .ow (s.2.map eQs), .sh (eI hs), jS o.2.2, .no, .no] p = some (false, p) := by
      refine (x_bOf (x_bin rfl (x_lst rfl (by simp)) neI_nil)).trans ?_
      rw [decide_eq_true hnil]; rfl
    exact x_seq (x_asgN hh) (x_iteF tst rfl)
  | some i =>
    rw [e] at hhead
    obtain ⟨hlt, hp, _⟩ := List.findIdx?_eq_some_iff_getElem.mp e
    obtain ⟨x0, xs0, hcons⟩ : ∃ x xs, hs = x :: xs := by
      cases h : hs with
      | nil => rw [h] at hhead; cases hhead
      | cons x xs => exact ⟨x, xs, rfl⟩
    have hx0 : x0 = (i : Int) := by
      rw [hcons] at hhead
      exact Option.some.inj hhead
    dsimp only
    rw [List.getElem?_eq_getElem hlt]
    dsimp only
    have hm : s.1[i] ∈ s.1 := List.getElem_mem hlt
    have hsub : ∀ r ∈ s.1.take i ++ s.1.drop (i + 1), r ∈ s.1 := fun r hr => by
      rcases List.mem_append.mp hr with q | q
      · exact List.mem_of_mem_take q
      · exact List.mem_of_mem_drop q
    have hne : (s.1[i].getD j (0, 1)).1 ≠ 0 := of_decide_eq_true hp
    have h2 := hI _ hm
    have hat0 : gIx (eI hs) (.int 0) = some (.int (i : Nat)) := by
      rw [hcons, hx0]
      show atI (D.int (i : Nat) :: xs0.map D.int) 0 = _
      rw [at_0]; rfl
    have hat : gIx (eQR s.1) (.int (i : Nat)) = some (eQs s.1[i]) := by
      show atI (s.1.map eQs) (i : Int) = _
      rw [at_nat, List.getElem?_map, List.getElem?_eq_getElem hlt]; rfl
    refine ⟨⟨fun r hr => ?_, ?_, ?_⟩, _, (some (.int (j : Nat)), some (eI hs), some (eQs s.1[i])), rfl, ?_⟩
    · obtain ⟨u, hu, rfl⟩ := List.mem_map.mp hr
      have h1 := hI u (hsub u hu)
      exact ⟨by show (lawLess u s.1[i] j).length = w; rw [less_len (by rw [h1.1, h2.1]), h1.1], (less_bt h1.2 h2.2 hne hbp).2⟩
    · rw [List.length_map, List.length_append, List.length_take, List.length_drop]; omega
    · rw [List.length_append]; simp; omega
    · have tst : bOf (dBin gNe (dVar 4) (dLst (dNil))) [.sh (eQR rows), .sh (.int (j : Nat)), .sh (eQR s.1), .ow (s.2.map eQs), .sh (eI hs), jS o.2.2, .no, .no] p = some (true, p) := by
        refine (x_bOf (x_bin rfl (x_lst rfl (by simp)) neI_nil)).trans ?_
        rw [decide_eq_false (by rw [hcons]; exact fun z => nomatch z)]; rfl
      have t5 : dAppend 3 (dVar 5) [.sh (eQR rows), .sh (.int (j : Nat)), .sh (eQR s.1), .ow (s.2.map eQs), .sh (eI hs), .sh (eQs s.1[i]), .no, .no] p = some (.nx, [.sh (eQR rows), .sh (.int (j : Nat)), .sh (eQR s.1), .ow ((s.2 ++ [s.1[i]]).map eQs), .sh (eI hs), .sh (eQs s.1[i]), .no, .no], p) := by
        rw [ev_app_]
        show (if _ then _ else _) = _
        rw [if_pos (by rw [List.length_map]; omega), List.map_append]; rfl
      have t6 : eL (lComp [7, 6] (lEnum (lOf (dVar 2))) (tgTup .al [7, 6]) (bOf (dBin gNe (dVar 7) (dBin gIx (dVar 4) (dK (.int 0))))) (dCall d__law_less (dCons (dVar 6) (dCons (dVar 5) (dCons (dVar 1) (dNil))))))
          [.sh (eQR rows), .sh (.int (j : Nat)), .sh (eQR s.1), .ow ((s.2 ++ [s.1[i]]).map eQs), .sh (eI hs), .sh (eQs s.1[i]), .no, .no] p = some (eQR ((s.1.take i ++ s.1.drop (i + 1)).map fun r => lawLess r s.1[i] j), p) := by
        have hc := compL (t := tgTup .al [7, 6]) (c := bOf (dBin gNe (dVar 7) (dBin gIx (dVar 4) (dK (.int 0))))) (f := dCall d__law_less (dCons (dVar 6) (dCons (dVar 5) (dCons (dVar 1) (dNil))))) (ρ := wipeD [.sh (eQR rows), .sh (.int (j : Nat)), .sh (eQR s.1), .ow ((s.2 ++ [s.1[i]]).map eQs), .sh (eI hs), .sh (eQs s.1[i]), .no, .no] [7, 6]) (p := p)
          (enc := fun y : List (Int × Int) × Nat => D.tup [.int (y.2 : Nat), eQs y.1]) (b := fun y => decide (y.2 ≠ 0 + i)) (g := fun y => eQs (lawLess y.1 s.1[i] j)) (xs := s.1.zipIdx) fun y hy => ⟨_, rfl, by
            refine (x_bOf (x_bin rfl (x_bin rfl rfl hat0) g_ne)).trans ?_
            have : (!decide (((y.2 : Nat) : Int) = ((i : Nat) : Int))) = decide (y.2 ≠ 0 + i) := by
              rw [← decide_not]
              apply decide_eq_decide.mpr
              omega
            rw [this], fun _ => by
            have hm' : y.1 ∈ s.1 := by
              have := List.mem_zipIdx (x := y.1) (i := y.2) (xs := s.1) hy
              obtain ⟨_, _, e⟩ := this
              rw [e]; exact List.getElem_mem _
            have h1 := hI _ hm'
            exact x_call rfl (q_law_less h1.1 h2.1 (by omega) hj h1.2 h2.2 hbp hb3 hne)⟩
        refine (x_eL (x_comp (es := ((s.1.take i ++ s.1.drop (i + 1)).map fun r => lawLess r s.1[i] j).map eQs) rfl ((x_enum (x_lOf rfl)).trans (by rw [enum_encQ])) ?_ ?_)).trans rfl
        · rw [hc, ← zip_ne s.1 0 i, List.map_map, List.map_map]; rfl
        · rw [List.length_map, List.length_map, List.length_append, List.length_take, List.length_drop]; omega
      exact x_seq (x_asgN hh) (x_iteT tst (x_seq (x_asgN (x_bin rfl (x_bin rfl rfl hat0) hat)) (x_seq t5 (x_asgN t6))))
end
section
open PySem PySem.Spec PyProof.Rows L2 DL RK
variable {p : Pot}
theorem q_put_w {rows : List (List (Int × Int))} {w b : Nat} (hz : rows = [] → w = 0) (hw : ∀ r ∈ rows, r.length = w) (hn : rows.length ≤ 60000) (hw2 : w ≤ 4) (hb : ∀ r ∈ rows, ∀ x ∈ r, Rb b x) (hb0 : 0 < b) (hb2 : b ≤ 18) :
    d__law_put_out [eQR rows] p = some (eQR ((RK.EF w).run w rows).2, p) := by
  have hwid : (rows.headD []).length = w ∨ rows = [] := by
    cases rows with
    | nil => exact .inr rfl
    | cons r rows => exact .inl (hw r List.mem_cons_self)
  have hrange : ∀ ρ : DEnv, ρ[0]? = some (.sh (eQR rows)) → lRange1 (dCons (dIf (bOf (dBin gNe (dVar 0) (dLst (dNil)))) (dApp gLen (dCons (dBin gIx (dVar 0) (dK (.int 0))) (dNil))) (dK (.int 0))) (dNil)) ρ p = some ((List.range w).map fun i => D.int (i : Nat), p) := fun ρ h0 => by
    have hv : dVar 0 ρ p = some (eQR rows, p) := by rw [ev_var, h0]
    have tst : bOf (dBin gNe (dVar 0) (dLst (dNil))) ρ p = some (!decide (rows = []), p) := x_bOf (x_bin hv (x_lst rfl (by simp)) neQ_nil)
    have hx : dCons (dIf (bOf (dBin gNe (dVar 0) (dLst (dNil)))) (dApp gLen (dCons (dBin gIx (dVar 0) (dK (.int 0))) (dNil))) (dK (.int 0))) (dNil) ρ p = some ([.int (w : Nat)], p) := by
      refine x_cons ?_ rfl
      by_cases hr : rows = []
      · rw [decide_eq_true hr] at tst
        refine x_ifF tst ?_
        rw [hz hr]; rfl
      · rw [decide_eq_false hr] at tst
        refine x_ifT tst (x_app (x_cons (x_bin hv rfl (d := eQs (rows.headD [])) ?_) rfl) ?_)
        · show atI (rows.map eQs) 0 = _
          rw [at_0]
          cases rows with
          | nil => exact absurd rfl hr
          | cons r rows => rfl
        · show some (D.int ((rows.headD []).map eQ).length) = _
          rw [List.length_map]
          rcases hwid with z | z
          · rw [z]
          · exact absurd z hr
    rw [x_range1 hx (by omega), Int.toNat_natCast, dInts_map]
  obtain ⟨o', h1, _⟩ := forLi (t := tgName .al 1) (g := poBody) (p := p) (enc := fun i : Nat => D.int (i : Nat)) (R := fun s o => eP s o rows) (step := fun s j => (RK.EF w).step j s) (I := fun k s => (∀ r ∈ s.1, r.length = w ∧ ∀ x ∈ r, Rb (bits4 b k) x) ∧ s.1.length ≤ 60000 ∧ s.2.length ≤ k)
    (xs := List.range w) (k := 0) (s := (rows, [])) (j := (none, none, none)) ⟨fun r hr => ⟨hw r hr, hb r hr⟩, hn, Nat.le_refl _⟩ fun i x hx s o hI => by
      obtain ⟨hi1, hi2⟩ := List.getElem?_eq_some_iff.mp hx
      obtain rfl : x = i := by simpa using hi2.symm
      rw [Nat.zero_add] at hI ⊢
      exact po_body hw2 hb0 hb2 s o (by simpa using hi1) hI
  have hcp : eL (lComp [6] (lOf (dVar 0)) (tgName .al 6) (bTrue) (eL (lList (dVar 6)))) (startD n__law_put_out false [eQR rows]) p = some (eQR rows, p) := by
    refine x_eL (x_comp (es := rows.map eQs) rfl (x_lOf rfl) (compM eQs eQs fun r hr => ⟨_, rfl, rfl⟩) (by rw [List.length_map]; omega))
  have hpar : dParO 2 3 (eL (lComp [6] (lOf (dVar 0)) (tgName .al 6) (bTrue) (eL (lList (dVar 6))))) (lLst (dNil)) (startD n__law_put_out false [eQR rows]) p = some (.nx, eP (rows, []) (none, none, none) rows, p) := by
    rw [ev_parO, hcp]; rfl
  exact x_def rfl (x_seq hpar (x_seq (x_for (hrange _ rfl) h1) (x_ret rfl)))
theorem q_put_out {rows : List (List (Int × Int))} {w b : Nat} (hw : ∀ r ∈ rows, r.length = w) (hn : rows.length ≤ 60000) (hw2 : w ≤ 4) (hb : ∀ r ∈ rows, ∀ x ∈ r, Rb b x) (hb0 : 0 < b) (hb2 : b ≤ 18) :
    d__law_put_out [eQR rows] p = some (eQR (putOut rows), p) := by
  cases rows with
  | nil => exact q_put_w (w := 0) (b := b) (fun _ => rfl) (fun r hr => absurd hr (by simp)) hn (by decide) hb hb0 hb2
  | cons r rows =>
    have h0 : r.length = w := hw r List.mem_cons_self
    subst h0
    exact q_put_w (fun z => by cases z) hw hn hw2 hb hb0 hb2
theorem q_law_rank {rows : List (List (Int × Int))} {w b : Nat} (hw : ∀ r ∈ rows, r.length = w) (hn : rows.length ≤ 60000) (hw2 : w ≤ 4) (hb : ∀ r ∈ rows, ∀ x ∈ r, Rb b x) (hb0 : 0 < b) (hb2 : b ≤ 18) :
    d__law_rank [eQR rows] p = some (.int (lawRank rows : Nat), p) := by
  refine x_def rfl (x_ret (x_app (x_cons (x_call rfl (q_put_out hw hn hw2 hb hb0 hb2)) rfl) ?_))
  show some (D.int ((putOut rows).map eQs).length) = _
  rw [List.length_map]; rfl
/-! ### the law's excess -/
theorem rb_plain {b : Nat} {x : Int} (h : Bt b x) (hb : 0 < b) : Rb b (x, 1) := ⟨by show (0 : Int) < 1; decide, h, Bt.one hb⟩
def plains (rows : List (List Int)) : List (List (Int × Int)) := rows.map plainF
theorem sel_plains {rows : List (List Int)} {lot : List Int} : sel (plains rows) [] lot = plains (sel rows [] lot) := by
  unfold sel plains
  rw [List.map_map]
  refine List.map_congr_left fun a _ => ?_
  show (rows.map plainF).getD a.toNat [] = plainF (rows.getD a.toNat [])
  rw [List.getD_eq_getElem?_getD, List.getD_eq_getElem?_getD, List.getElem?_map]
  cases rows[a.toNat]? <;> rfl
def excL (rows : List (List Int)) (ws : List (Int × Int)) (lot : List Int) : Int × Int := fplus (ftimes (fsum (sel ws (0, 1) lot)) ((intRank rows : Nat), 1)) (ftimes (fsum ws) (0 - ((intRank (sel rows [] lot) : Nat) : Int), 1))
section
variable {rows : List (List Int)} {ws : List (Int × Int)} {w b : Nat} {lot : List Int} (G : Rw rows ws w b)
include G
theorem plains_ok {l : List (List Int)} (hl : ∀ r ∈ l, r.length = w ∧ ∀ x ∈ r, Bt b x) : (∀ r ∈ plains l, r.length = w) ∧ ∀ r ∈ plains l, ∀ x ∈ r, Rb b x := by
  refine ⟨fun r hr => ?_, fun r hr x hx => ?_⟩
  · obtain ⟨u, hu, rfl⟩ := List.mem_map.mp hr
    unfold plainF; rw [List.length_map]; exact (hl u hu).1
  · obtain ⟨u, hu, rfl⟩ := List.mem_map.mp hr
    obtain ⟨n, hn, rfl⟩ := List.mem_map.mp hx
    exact rb_plain ((hl u hu).2 n hn) G.b0
theorem q_law_rank_all : d__law_rank [eQR (plains rows)] p = some (.int (intRank rows : Nat), p) := by
  obtain ⟨h1, h2⟩ := plains_ok G (l := rows) fun r hr => ⟨G.wide r hr, G.bits r hr⟩
  rw [q_law_rank h1 (by unfold plains; rw [List.length_map]; have := G.many; omega) G.w4 h2 G.b0 G.b1]
  unfold plains
  rw [ranks_eq G.wide]
theorem q_law_lot_rank (hin : In rows.length lot) (hl : lot.length ≤ 8) : d__law_lot_rank [eQR (plains rows), eI lot] p = some (.int (intRank (sel rows [] lot) : Nat), p) := by
  have hs : ∀ r ∈ sel rows [] lot, r.length = w ∧ ∀ x ∈ r, Bt b x := fun r hr => ⟨G.wide r (sel_mem hin rfl hr), G.bits r (sel_mem hin rfl hr)⟩
  obtain ⟨h1, h2⟩ := plains_ok G hs
  refine x_def rfl (x_ret (x_call (x_cons (x_eL (x_sel (f := eQs) (l := plains rows) (d := []) (lot := lot) (n := rows.length) hin (by unfold plains; rw [List.length_map]) (by omega) rfl rfl rfl rfl)) rfl) ?_))
  rw [sel_plains]
  have := q_law_rank (p := p) h1 (by unfold plains; rw [List.length_map, sel_len]; omega) G.w4 h2 G.b0 G.b1
  rw [show eQR (plains (sel rows [] lot)) = .lst ((plains (sel rows [] lot)).map eQs) from rfl] at this
  rw [this]
  unfold plains
  rw [ranks_eq fun r hr => (hs r hr).1]
theorem q_law_excess (hin : In rows.length lot) (hl : lot.length ≤ 8) : d__law_excess [eQR (plains rows), eQs ws, eI lot] p = some (eQ (excL rows ws lot), p) := by
  have r1 := rb_nat (rank_all G)
  have r2 := rb_neg (rank_lot G hin hl)
  have s1 := lot_sum G hin hl
  have s2 := all_sum G
  have hm := G.many
  have e1 : d__law_times [eQ (fsum (sel ws (0, 1) lot)), eQ (((intRank rows : Nat) : Int), 1)] p = some (eQ (ftimes (fsum (sel ws (0, 1) lot)) ((intRank rows : Nat), 1)), p) := q_times s1 r1 (by decide) (by decide) (by decide)
  have e2 : d__law_times [eQ (fsum ws), eQ (0 - ((intRank (sel rows [] lot) : Nat) : Int), 1)] p = some (eQ (ftimes (fsum ws) (0 - ((intRank (sel rows [] lot) : Nat) : Int), 1)), p) := q_times s2 r2 (by decide) (by decide) (by decide)
  refine x_def rfl (x_seq (x_asgN (x_call (x_cons (x_call rfl (q_law_weight (n := 8) G.wb (by decide) G.same hin (by have : (lot.length + 1) * 9 ≤ 9 * 9 := Nat.mul_le_mul_right _ (by omega); omega))) (x_cons (x_tup (x_cons (x_call rfl (q_law_rank_all G)) rfl) (by simp)) rfl)) e1))
    (x_ret (x_call (x_cons rfl (x_cons (x_call (x_cons (x_call rfl (q_law_sum (n := 8) G.wb (by decide) (by rw [G.same]; have : (rows.length + 1) * 9 ≤ 9 * 9 := Nat.mul_le_mul_right _ (by omega); omega))) (x_cons (x_tup (x_cons (x_bin rfl (x_call rfl (q_law_lot_rank G hin hl)) g_sub) rfl) (by simp)) rfl)) e2) rfl)) ?_)))
  exact q_plus (ftimes_bt s1 r1) (ftimes_bt s2 r2) (by decide) (by decide) (by decide)
theorem excL_nf (hin : In rows.length lot) (hl : lot.length ≤ 8) : Nf (excL rows ws lot) := by
  have r1 := rb_nat (rank_all G)
  have r2 := rb_neg (rank_lot G hin hl)
  exact fplus_nf (ftimes_bt (lot_sum G hin hl) r1).pos (ftimes_bt (all_sum G) r2).pos
/-- the program's excess is the law's -/
theorem exc_eq (hin : In rows.length lot) (hl : lot.length ≤ 8) : excP rows ws lot = excL rows ws lot := by
  have r1 := rb_nat (rank_all G)
  have r2 := rb_neg (rank_lot G hin hl)
  have r3 := rb_nat (rank_lot G hin hl)
  have s1 := lot_sum G hin hl
  have s2 := all_sum G
  refine nf_uniq (exc_nf G hin hl).1 (excL_nf G hin hl) ?_
  unfold excP excL
  rw [fsub_val (ftimes_bt s1 r1).pos (ftimes_bt s2 r3).pos, fplus_val (ftimes_bt s1 r1).pos (ftimes_bt s2 r2).pos, ftimes_val s1.pos r1.pos, ftimes_val s2.pos r3.pos, ftimes_val s2.pos r2.pos, val_int, val_int, val_int, Rat.intCast_sub, show ((0 : Int) : Rat) = 0 from rfl]
  grind
/-- .. and its value is the excess of the pure side -/
theorem exc_val (hin : In rows.length lot) (hl : lot.length ≤ 8) : val (excP rows ws lot) = exc (fun a => vi (rows.getD a.toNat [])) (fun a => val (ws.getD a.toNat (0, 1))) (intRank rows) (val (fsum ws)) lot := by
  have r1 := rb_nat (rank_all G)
  have r3 := rb_nat (rank_lot G hin hl)
  have s1 := lot_sum G hin hl
  have s2 := all_sum G
  unfold excP exc
  rw [fsub_val (ftimes_bt s1 r1).pos (ftimes_bt s2 r3).pos, ftimes_val s1.pos r1.pos, ftimes_val s2.pos r3.pos, val_int, val_int, intRank_eq (rows := sel rows [] lot) (w := w) fun r hr => G.wide r (sel_mem hin rfl hr),
    (fsum_val (l := sel ws (0, 1) lot) fun y hy => (G.wb y (sel_mem hin G.same hy)).pos).2]
  unfold sel
  rw [List.map_map, List.map_map]
  rfl
end
end
section
open PySem PySem.Spec PyProof.Rows L2 DL RK
variable {p : Pot}
/-! ### numbers as handed -/
def eW (x : Int × Int) : D := if x.2 = 1 then .int x.1 else .rat x.1 x.2
theorem eW_int (n : Int) : eW (n, 1) = .int n := if_pos rfl
theorem q_ratio_of (x : Int × Int) : d_ratio_of [eW x] p = some (eA x, p) := by
  unfold eW
  by_cases h : x.2 = 1
  · rw [if_pos h]
    have e : mkRat ([.int x.1] ++ [.int 1]) p = some (eA x, p) := by
      have := mkRat_low (p := p) (t := x.1) (b := 1) (by decide) (by decide)
      rw [low_one] at this
      rw [show x = (x.1, 1) from Prod.ext rfl h]
      exact this
    exact x_def rfl (x_ret (x_ifF (p1 := p) rfl (x_call rfl e)))
  · rw [if_neg h]
    exact x_def rfl (x_ret (x_ifT (p1 := p) rfl rfl))
theorem q_is_num (x : Int × Int) : d_is_number [eW x] p = some (.bl true, p) := by
  unfold eW
  by_cases h : x.2 = 1
  · rw [if_pos h]; exact q_is_number x.1
  · rw [if_neg h]; exact q_is_numberR x.1 x.2
theorem q_ratios_go {l : List (Int × Int)} (hl : l.length ≤ 65536) {d : D} (hd : d = .lst (l.map eW) ∨ d = .tup (l.map eW)) : d_ratios_of [d] p = some (eAs l, p) := by
  have h3 : lSeq (dVarF 0) [.ro d, .no] p = some (l.map eW, p) := by rcases hd with rfl | rfl <;> rfl
  exact x_def rfl (x_ret ((x_eL (x_comp (es := l.map eA) rfl h3 (compM eW eA fun x hx => ⟨_, rfl, x_ratF (x_call rfl (q_ratio_of x)) (.inl rfl)⟩) (by rw [List.length_map]; exact hl))).trans rfl))
theorem eI_plain (row : List Int) : eI row = .lst ((plainF row).map eW) := by
  unfold eI plainF
  rw [List.map_map]
  congr 1
theorem lcm_one : gLcm [.int 1, .int 1] = some (.int 1) := by
  show (if (1 : Int).natAbs < 2 ^ 64 ∧ (1 : Int).natAbs < 2 ^ 64 then some (D.int ((Nat.lcm 1 1 : Nat) : Int)) else none) = _
  rw [if_pos ⟨by decide, by decide⟩]; rfl
theorem q_wholes {row : List Int} (hl : row.length ≤ 65536) (hb : ∀ x ∈ row, Bt 8000 x) : d_wholes [eAs (plainF row)] p = some (.tup [.int 1, eI row], p) := by
  obtain ⟨j, hj⟩ := forL (t := tgName .al 2) (g := dAsg (dApp gLcm (dCons (dVar 1) (dCons (dFld .own_bottom (dVar 2)) (dNil)))) (tgName .al 1)) (p := p) (enc := fun n : Int => eA (n, 1)) (R := fun (s : Unit) (j : Option D) => [.sh (eAs (plainF row)), .sh (.int 1), jS j])
    (step := fun c x => ()) (I := fun _ => True) (xs := row) (s := ()) (j := none) trivial fun x _ s j _ => ⟨trivial, _, some (eA (x, 1)), rfl, (x_asgN (x_app (x_cons rfl (x_cons rfl rfl)) lcm_one)).trans rfl⟩
  have e1 : ((plainF row).map eA) = row.map fun n : Int => eA (n, 1) := by unfold plainF; rw [List.map_map]; rfl
  have e2 : lOf (dVar 0) [.sh (eAs (plainF row)), .sh (.int 1), .no] p = some (row.map fun n : Int => eA (n, 1), p) := by
    show some ((plainF row).map eA, p) = _
    rw [e1]
  have e3 : lOf (dVar 0) [.sh (eAs (plainF row)), .sh (.int 1), jS j] p = some (row.map fun n : Int => eA (n, 1), p) := by
    show some ((plainF row).map eA, p) = _
    rw [e1]
  refine x_def rfl (x_seq (x_asgN rfl) (x_seq (x_for e2 hj) (x_ret (x_tup (x_cons rfl (x_cons (x_eL (x_comp (es := row.map D.int) (by cases j <;> rfl) e3 (compM (fun n : Int => eA (n, 1)) D.int fun x hx => ⟨_, rfl, ?_⟩) (by rw [List.length_map]; exact hl))) rfl)) (by simp)))))
  refine (x_bin rfl (x_bin rfl rfl (g_fdiv (i := 1) (j := 1) ⟨by decide, by decide⟩)) (mul_ok (n := 8000) (m := 2) (hb x hx) (show Bt 2 ((1 : Int).fdiv 1) from Bt.one (by decide)) (by decide) (by decide) (by decide))).trans ?_
  show some (D.int (x * (1 : Int).fdiv 1), p) = _
  rw [show (1 : Int).fdiv 1 = 1 from rfl, Int.mul_one]
theorem q_ints_of {rows : List (List Int)} (hn : rows.length ≤ 65536) (hl : ∀ r ∈ rows, r.length ≤ 65536) (hb : ∀ r ∈ rows, ∀ x ∈ r, Bt 8000 x) : d_ints_of [eR rows] p = some (eR rows, p) := by
  refine x_def rfl (x_ret ((x_eL (x_comp (es := rows.map eI) rfl (x_lSeqL rfl) (compM eI eI fun r hr => ⟨_, rfl, ?_⟩) (by rw [List.length_map]; exact hn))).trans rfl))
  refine x_bin (x_call (x_cons (x_call rfl (q_ratios_go (l := plainF r) (by unfold plainF; rw [List.length_map]; exact hl r hr) (.inl (eI_plain r)))) rfl) (q_wholes (hl r hr) (hb r hr))) rfl rfl
theorem q_are_numbers {l : List (Int × Int)} {n : Nat} (hl : l.length ≤ 65536) {d : D} (hd : d = .lst (l.map eW) ∨ d = .tup (l.map eW)) : d_are_numbers [d, .int (n : Nat)] p = some (.bl (decide (l.length = n)), p) := by
  have h1 : d_is_list [d] p = some (.bl true, p) := by rcases hd with rfl | rfl <;> rfl
  have h2 : gLen [d] = some (.int (l.length : Nat)) := by
    rcases hd with rfl | rfl
    · show some (D.int (l.map eW).length) = _
      rw [List.length_map]
    · show some (D.int (l.map eW).length) = _
      rw [List.length_map]
  have h3 : lSeq (dVar 0) [.sh d, .sh (.int (n : Nat)), .no] p = some (l.map eW, p) := by rcases hd with rfl | rfl <;> rfl
  refine x_def rfl (x_ret (x_and (x_call rfl h1) ?_))
  rw [if_pos rfl]
  refine x_and (x_bin (x_app rfl h2) rfl g_eq) ?_
  by_cases h : l.length = n
  · rw [decide_eq_true h, if_pos (by rw [decide_eq_true_iff]; omega)]
    refine x_app (x_cons (x_eL (x_comp (es := l.map fun _ => D.bl true) rfl h3 (compM eW (fun _ => D.bl true) fun x hx => ⟨_, rfl, x_call rfl (q_is_num x)⟩) (by rw [List.length_map]; exact hl))) rfl) ?_
    have := g_all (l := l.map fun _ => true)
    rw [List.map_map] at this
    rw [show (l.map fun _ => D.bl true) = l.map (D.bl ∘ fun _ => true) from rfl, this]
    congr 2
    simp
  · rw [decide_eq_false h, if_neg (by rw [decide_eq_true_iff]; omega)]
end
section
open PySem PySem.Spec PyProof.Rows L2 DL RK
variable {p : Pot}
theorem all_true {α : Type} (l : List α) : gAll [.lst (l.map fun _ => D.bl true)] = some (.bl true) := by
  have := g_all (l := l.map fun _ => true)
  rw [List.map_map] at this
  rw [show (l.map fun _ => D.bl true) = l.map (D.bl ∘ fun _ => true) from rfl, this]
  congr 2
  simp
theorem all_of {α : Type} (l : List α) (f : α → Bool) (h : ∀ x ∈ l, f x = true) : gAll [.lst (l.map fun x => D.bl (f x))] = some (.bl true) := by
  have : (l.map fun x => D.bl (f x)) = l.map fun _ => D.bl true := List.map_congr_left fun x hx => by rw [h x hx]
  rw [this]; exact all_true l
/-- lists that are well-formed -/
structure Ls (rows : List (List Int)) (w b : Nat) : Prop where
  wide : ∀ r ∈ rows, r.length = w
  w1 : 1 ≤ w
  w4 : w ≤ 4
  bits : ∀ r ∈ rows, ∀ x ∈ r, Bt b x
  b0 : 0 < b
  b1 : b ≤ 18
  one : 1 ≤ rows.length
  many : rows.length ≤ 8
  rank : 0 < intRank rows
section
variable {rows : List (List Int)} {w b : Nat} (G : Ls rows w b)
include G
theorem q_ints : d_ints_of [eR rows] p = some (eR rows, p) := by
  have := G.many
  have h4 := G.w4
  have hb := G.b1
  exact q_ints_of (by omega) (fun r hr => by rw [G.wide r hr]; omega) fun r hr x hx => (G.bits r hr x hx).mono (by omega)
theorem q_rank_rows : d_int_rank [eR rows] p = some (.int (intRank rows : Nat), p) := q_int_rank G.wide (by have := G.many; omega) G.w4 G.bits G.b0 (by have := G.b1; omega)
theorem q_are_lists : d_are_lists [eR rows] p = some (.bl true, p) := by
  have hm := G.many
  have h1 := G.one
  have hw1 := G.w1
  have hw4 := G.w4
  obtain ⟨r0, rs, hrows⟩ : ∃ r rs, rows = r :: rs := by
    cases h : rows with
    | nil => rw [h] at h1; simp at h1
    | cons r rs => exact ⟨r, rs, rfl⟩
  have hr0 : r0.length = w := G.wide r0 (by rw [hrows]; exact List.mem_cons_self)
  have a0 : gIx (eR rows) (.int 0) = some (eI r0) := by
    show atI (rows.map eI) 0 = _
    rw [at_0, hrows]; rfl
  have len0 : gLen [eI r0] = some (.int (w : Nat)) := by
    show some (D.int (r0.map D.int).length) = _
    rw [List.length_map, hr0]
  have lenR : gLen [eR rows] = some (.int (rows.length : Nat)) := by
    show some (D.int (rows.map eI).length) = _
    rw [List.length_map]
  have ch : ∀ (n hi : Nat) (f : EF) (ρ : DEnv), f ρ p = some (.int (n : Nat), p) → 1 ≤ n → n ≤ hi → dChain gLe gLe (dK (.int 1)) f (dK (.int (hi : Nat))) ρ p = some (.bl true, p) := fun n hi f ρ hf h1 h2 => by
    have d1 : decide ((1 : Int) ≤ (n : Nat)) = true := decide_eq_true (by omega)
    have d2 : decide (((n : Nat) : Int) ≤ (hi : Nat)) = true := decide_eq_true (by omega)
    simp only [ev_chain, ev_K, Option.bind_some, hf, g_rel, d1, d2, Option.map_some]
  refine x_def rfl (x_seq (x_iteF (p1 := p) ?_ rfl) (x_seq (x_asgN (x_app (x_cons (x_bin rfl rfl a0) rfl) len0)) (x_seq (x_iteF (p1 := p) ?_ rfl) (x_ret ?_))))
  · refine x_bOr (b := false) rfl ?_
    rw [if_neg Bool.false_ne_true]
    refine x_bOr (b := false) (x_bNot (x_bOf (ch rows.length 8 _ _ (x_app rfl lenR) h1 hm))) ?_
    rw [if_neg Bool.false_ne_true]
    exact x_bNot (x_bOf (x_call (x_cons (x_bin rfl rfl a0) rfl) (q_is_list (r0.map D.int))))
  · refine x_bOr (b := false) (x_bNot (x_bOf (ch w 4 _ _ rfl hw1 hw4))) ?_
    rw [if_neg Bool.false_ne_true]
    refine x_bNot (b := true) (x_bOf (x_app (x_cons (x_eL (x_comp (es := rows.map fun _ => D.bl true) rfl (x_lSeqL rfl) (compM eI (fun _ => D.bl true) fun r hr => ⟨_, rfl, ?_⟩) (by rw [List.length_map]; omega))) rfl) (all_true rows)))
    have hl : (plainF r).length = w := by unfold plainF; rw [List.length_map]; exact G.wide r hr
    refine x_call rfl ((q_are_numbers (l := plainF r) (n := w) (by omega) (.inl (eI_plain r))).trans ?_)
    rw [decide_eq_true hl]
  · refine x_bin (x_call (x_cons (x_call rfl (q_ints G)) rfl) (q_rank_rows G)) rfl ?_
    show some (D.bl (decide ((0 : Int) < (intRank rows : Nat)))) = _
    rw [decide_eq_true (by have := G.rank; omega)]
theorem q_want_lists : d_want_lists [eR rows] p = some (eR rows, p) :=
  x_def rfl (x_seq (x_iteF (p1 := p) (x_bNot (b := true) (x_bOf (x_ratF (x_call rfl (q_are_lists G)) (.inr rfl)))) rfl) (x_ret (x_call rfl (q_ints G))))
end
/-! ### weights -/
theorem q_want_weights {ws : List (Int × Int)} {n : Nat} (hn : ws.length = n) (hl : n ≤ 60000) (h0 : ∀ y ∈ ws, 0 ≤ y.1) {d : D} (hd : d = .lst (ws.map eW) ∨ d = .tup (ws.map eW)) : d_want_weights [.int (n : Nat), d] p = some (eAs ws, p) := by
  have hr := q_ratios_go (p := p) (l := ws) (by omega) hd
  have hw : d_are_weights [.int (n : Nat), d] p = some (.bl true, p) := by
    refine x_def rfl (x_ret (x_and (x_call rfl ((q_are_numbers (l := ws) (n := n) (by omega) hd).trans (by rw [decide_eq_true hn]))) ?_))
    rw [if_pos rfl]
    refine x_app (x_cons (x_eL (x_comp (es := ws.map fun _ => D.bl true) rfl (x_lOf (x_call rfl hr)) (compM eA (fun _ => D.bl true) fun y hy => ⟨_, rfl, ?_⟩) (by rw [List.length_map]; omega))) rfl) (all_true ws)
    refine x_bin (x_prop rfl rfl (q_sign y.1 y.2)) rfl ?_
    show some (D.bl (decide ((0 : Int) ≤ (if 0 < y.1 then 1 else 0) - (if y.1 < 0 then 1 else 0)))) = _
    rw [decide_eq_true]
    have := h0 y hy
    rw [if_neg (show ¬ y.1 < 0 by omega)]
    split <;> omega
  exact x_def rfl (x_seq (x_iteF (p1 := p) (x_bNot (b := true) (x_bOf (x_ratF (x_call rfl hw) (.inr rfl)))) rfl) (x_ret (x_call rfl hr)))
/-! ### lots -/
theorem asc_step {l : List Int} (h : Asc l) : ∀ z ∈ l.zip (l.drop 1), z.1 < z.2 := by
  intro z hz
  obtain ⟨i, hi⟩ := List.getElem?_of_mem hz
  rw [List.getElem?_zip_eq_some] at hi
  obtain ⟨h1, h2⟩ := hi
  rw [List.getElem?_drop] at h2
  obtain ⟨a1, e1⟩ := List.getElem?_eq_some_iff.mp h1
  obtain ⟨a2, e2⟩ := List.getElem?_eq_some_iff.mp h2
  have := List.pairwise_iff_getElem.mp h i (1 + i) a1 a2 (by omega)
  omega
end
section
open PySem PySem.Spec PyProof.Rows L2 DL RK
/-! ### the least, the greatest of a list -/
theorem min_ok : ∀ (l : List Int) (x : Int), (l.foldl min x = x ∨ l.foldl min x ∈ l) ∧ l.foldl min x ≤ x ∧ ∀ y ∈ l, l.foldl min x ≤ y
  | [], x => ⟨.inl rfl, Int.le_refl _, fun _ h => absurd h (by simp)⟩
  | z :: l, x => by
    obtain ⟨h1, h2, h3⟩ := min_ok l (min x z)
    rw [List.foldl_cons]
    refine ⟨?_, by omega, fun y hy => ?_⟩
    · rcases h1 with e | e
      · rw [e]
        by_cases h : x ≤ z
        · left; omega
        · right; rw [show min x z = z by omega]; exact List.mem_cons_self
      · right; exact List.mem_cons_of_mem _ e
    · rcases List.mem_cons.mp hy with rfl | hy
      · omega
      · exact h3 y hy
theorem max_ok : ∀ (l : List Int) (x : Int), (l.foldl max x = x ∨ l.foldl max x ∈ l) ∧ x ≤ l.foldl max x ∧ ∀ y ∈ l, y ≤ l.foldl max x
  | [], x => ⟨.inl rfl, Int.le_refl _, fun _ h => absurd h (by simp)⟩
  | z :: l, x => by
    obtain ⟨h1, h2, h3⟩ := max_ok l (max x z)
    rw [List.foldl_cons]
    refine ⟨?_, by omega, fun y hy => ?_⟩
    · rcases h1 with e | e
      · rw [e]
        by_cases h : z ≤ x
        · left; omega
        · right; rw [show max x z = z by omega]; exact List.mem_cons_self
      · right; exact List.mem_cons_of_mem _ e
    · rcases List.mem_cons.mp hy with rfl | hy
      · omega
      · exact h3 y hy
theorem minL_ok {l : List Int} (h : l ≠ []) : ∃ m, gMinL [.lst (l.map .int)] = some (.int m) ∧ m ∈ l ∧ ∀ y ∈ l, m ≤ y := by
  cases l with
  | nil => exact absurd rfl h
  | cons x l =>
    obtain ⟨h1, h2, h3⟩ := min_ok l x
    refine ⟨l.foldl min x, ?_, ?_, fun y hy => ?_⟩
    · show (intsOf ((x :: l).map D.int)).bind _ = _
      rw [intsOf_map]; rfl
    · rcases h1 with e | e
      · rw [e]; exact List.mem_cons_self
      · exact List.mem_cons_of_mem _ e
    · rcases List.mem_cons.mp hy with rfl | hy
      · exact h2
      · exact h3 y hy
theorem maxL_ok {l : List Int} (h : l ≠ []) : ∃ m, gMaxL [.lst (l.map .int)] = some (.int m) ∧ m ∈ l ∧ ∀ y ∈ l, y ≤ m := by
  cases l with
  | nil => exact absurd rfl h
  | cons x l =>
    obtain ⟨h1, h2, h3⟩ := max_ok l x
    refine ⟨l.foldl max x, ?_, ?_, fun y hy => ?_⟩
    · show (intsOf ((x :: l).map D.int)).bind _ = _
      rw [intsOf_map]; rfl
    · rcases h1 with e | e
      · rw [e]; exact List.mem_cons_self
      · exact List.mem_cons_of_mem _ e
    · rcases List.mem_cons.mp hy with rfl | hy
      · exact h2
      · exact h3 y hy
theorem ix_ok {i : Int} : ∀ {l : List Int}, i ∈ l → ∃ j, ixOf i l = some j ∧ l[j]? = some i
  | [], h => absurd h (by simp)
  | x :: l, h => by
    unfold ixOf
    by_cases e : x = i
    · rw [if_pos e]; exact ⟨0, rfl, by rw [e]; rfl⟩
    · rw [if_neg e]
      obtain ⟨j, h1, h2⟩ := ix_ok (l := l) (by
        rcases List.mem_cons.mp h with q | q
        · exact absurd q.symm e
        · exact q)
      exact ⟨j + 1, by rw [h1]; rfl, by simpa using h2⟩
theorem x_index {ρ : DEnv} {p p1 p2 : Pot} {f : LF} {g : EF} {ns : List Int} {i : Int} {j : Nat} (h : f ρ p = some (ns.map .int, p1)) (hg : g ρ p1 = some (.int i, p2)) (hi : ixOf i ns = some j) : dIndex f g ρ p = some (.int (j : Nat), p2) := by
  unfold dIndex
  rw [h]
  simp only [Option.bind_some]
  rw [intsOf_map]
  simp only [Option.bind_some]
  rw [hg]
  simp only [Option.bind_some]
  rw [hi]; rfl
/-! ### greatest_in -/
def eT (t : (Int × Int) × List Int) : D := .tup [eA t.1, eI t.2]
def better (b : Int × Int) (t : (Int × Int) × List Int) : Int × Int := if b.1 * t.1.2 < t.1.1 * b.2 then t.1 else b
def bestOf (x : Int × Int) (l : List ((Int × Int) × List Int)) : Int × Int := l.foldl better x
def someOf (b : Int × Int) (l : List ((Int × Int) × List Int)) : List (List Int) := (l.filter fun t => decide (t.1 = b)).map (·.2)
end
section
open PySem PySem.Spec PyProof.Rows L2 DL RK
variable {p : Pot}
/-! ### all lots rated -/
def rated (rows : List (List Int)) (ws : List (Int × Int)) : List ((Int × Int) × List Int) := (lotsOf rows.length).map fun lot => (excL rows ws lot, lot)
def bestL (rows : List (List Int)) (ws : List (Int × Int)) : Int × Int := bestOf (0, 1) (rated rows ws)
def someL (rows : List (List Int)) (ws : List (Int × Int)) : List (List Int) := someOf (bestL rows ws) (rated rows ws)
theorem lots_in {n : Nat} {lot : List Int} (h : lot ∈ lotsOf n) : In n lot := (lots_mem.mp h).2
theorem lots_cons : ∀ n, ∃ l, lotsOf n = [] :: l
  | 0 => ⟨[], rfl⟩
  | n + 1 => by
    obtain ⟨l, h⟩ := lots_cons n
    show ∃ l', lotsOf n ++ _ = _
    rw [h]
    exact ⟨_, rfl⟩
theorem val_lt {x y : Int × Int} (hx : 0 < x.2) (hy : 0 < y.2) : x.1 * y.2 < y.1 * x.2 ↔ val x < val y := by
  have h1 : (0 : Rat) < (x.2 : Rat) := Rat.intCast_pos.mpr hx
  have h2 : (0 : Rat) < (y.2 : Rat) := Rat.intCast_pos.mpr hy
  unfold val
  rw [Rat.div_lt_iff h1, ← Rat.intCast_lt_intCast, Rat.intCast_mul, Rat.intCast_mul]
  constructor
  · intro h
    have : (x.1 : Rat) < (y.1 : Rat) * (x.2 : Rat) / (y.2 : Rat) := (Rat.lt_div_iff h2).mpr h
    rw [Rat.div_def] at this ⊢
    grind
  · intro h
    have : (x.1 : Rat) < (y.1 : Rat) * (x.2 : Rat) / (y.2 : Rat) := by
      rw [Rat.div_def] at h ⊢
      grind
    exact (Rat.lt_div_iff h2).mp this
theorem best_ok : ∀ (l : List ((Int × Int) × List Int)) (x : Int × Int), 0 < x.2 → (∀ t ∈ l, 0 < t.1.2) → (bestOf x l = x ∨ ∃ t ∈ l, bestOf x l = t.1) ∧ 0 < (bestOf x l).2 ∧ val x ≤ val (bestOf x l) ∧ ∀ t ∈ l, val t.1 ≤ val (bestOf x l)
  | [], x, hx, _ => ⟨.inl rfl, hx, Rat.le_refl, fun _ h => absurd h (by simp)⟩
  | t :: l, x, hx, h => by
    have ht := h t List.mem_cons_self
    have hb : 0 < (better x t).2 := by unfold better; split <;> assumption
    obtain ⟨h1, h2, h3, h4⟩ := best_ok l (better x t) hb fun t' h' => h t' (List.mem_cons_of_mem _ h')
    have e : bestOf x (t :: l) = bestOf (better x t) l := rfl
    rw [e]
    have hx2 : val x ≤ val (better x t) ∧ val t.1 ≤ val (better x t) := by
      unfold better
      split
      · rename_i c
        exact ⟨Rat.le_of_lt ((val_lt hx ht).mp c), Rat.le_refl⟩
      · rename_i c
        exact ⟨Rat.le_refl, Rat.not_lt.mp fun z => c ((val_lt hx ht).mpr z)⟩
    refine ⟨?_, h2, Rat.le_trans hx2.1 h3, fun t' h' => ?_⟩
    · rcases h1 with q | ⟨t', ht', q⟩
      · rw [q]; unfold better
        split
        · exact .inr ⟨t, List.mem_cons_self, rfl⟩
        · exact .inl rfl
      · exact .inr ⟨t', List.mem_cons_of_mem _ ht', q⟩
    · rcases List.mem_cons.mp h' with rfl | h'
      · exact Rat.le_trans hx2.2 h3
      · exact h4 t' h'
section
variable {rows : List (List Int)} {ws : List (Int × Int)} {w b : Nat} (G : Rw rows ws w b)
include G
theorem lot_ok {lot : List Int} (h : lot ∈ lotsOf rows.length) : In rows.length lot ∧ lot.length ≤ 8 := ⟨lots_in h, by have := lots_short h; have := G.many; omega⟩
theorem lots_many : (lotsOf rows.length).length ≤ 256 := by
  rw [lots_len]; exact Nat.pow_le_pow_right (n := 2) (by decide) G.many
theorem rated_nf {t : (Int × Int) × List Int} (h : t ∈ rated rows ws) : Nf t.1 ∧ Rb 200 t.1 ∧ t.2 ∈ lotsOf rows.length ∧ t.1 = excL rows ws t.2 := by
  obtain ⟨lot, hl, rfl⟩ := List.mem_map.mp h
  obtain ⟨h1, h2⟩ := lot_ok G hl
  refine ⟨excL_nf G h1 h2, ?_, hl, rfl⟩
  show Rb 200 (excL rows ws lot)
  rw [← exc_eq G h1 h2]
  exact (exc_nf G h1 h2).2
theorem exc_nil : excL rows ws [] = (0, 1) := by
  have hin : In rows.length [] := fun _ h => absurd h (by simp)
  refine nf_uniq (excL_nf G hin (by decide)) nf_zero ?_
  rw [← exc_eq G hin (by decide), exc_val G hin (by decide), val_int]
  show (0 : Rat) * _ - _ * ((rk ([] : List Vec) : Nat) : Rat) = _
  rw [show rk ([] : List Vec) = 0 from by simp [rk]]
  show (0 : Rat) * _ - _ * (((0 : Nat)) : Rat) = ((0 : Int) : Rat)
  have e1 : (((0 : Nat)) : Rat) = 0 := rfl
  have e2 : ((0 : Int) : Rat) = 0 := rfl
  rw [e1, e2]
  grind
theorem rated_cons : ∃ ts, rated rows ws = ((0, 1), []) :: ts := by
  obtain ⟨l, h⟩ := lots_cons rows.length
  unfold rated
  rw [h, List.map_cons, exc_nil G]
  exact ⟨_, rfl⟩
theorem best_nf : Nf (bestL rows ws) ∧ Rb 200 (bestL rows ws) ∧ (∃ t ∈ rated rows ws, bestL rows ws = t.1) ∧ ∀ t ∈ rated rows ws, val t.1 ≤ val (bestL rows ws) := by
  obtain ⟨h1, h2, h3, h4⟩ := best_ok (rated rows ws) (0, 1) (by decide) fun t ht => (rated_nf G ht).1.1
  have he : ∃ t ∈ rated rows ws, bestL rows ws = t.1 := by
    rcases h1 with q | q
    · obtain ⟨ts, hts⟩ := rated_cons G
      exact ⟨((0, 1), []), by rw [hts]; exact List.mem_cons_self, q⟩
    · exact q
  obtain ⟨t, ht, e⟩ := he
  obtain ⟨n1, n2, _⟩ := rated_nf G ht
  exact ⟨by rw [e]; exact n1, by rw [e]; exact n2, ⟨t, ht, e⟩, h4⟩
theorem some_iff {M : List Int} : M ∈ someL rows ws ↔ M ∈ lotsOf rows.length ∧ excL rows ws M = bestL rows ws := by
  unfold someL someOf
  rw [List.mem_map]
  constructor
  · rintro ⟨t, ht, rfl⟩
    obtain ⟨h1, h2⟩ := List.mem_filter.mp ht
    obtain ⟨_, _, h3, h4⟩ := rated_nf G h1
    exact ⟨h3, by rw [← h4]; simpa using h2⟩
  · rintro ⟨h1, h2⟩
    exact ⟨(excL rows ws M, M), List.mem_filter.mpr ⟨List.mem_map_of_mem (f := fun lot => (excL rows ws lot, lot)) h1, by simpa using h2⟩, rfl⟩
theorem some_ne : someL rows ws ≠ [] := by
  obtain ⟨_, _, ⟨t, ht, e⟩, _⟩ := best_nf G
  obtain ⟨_, _, h3, h4⟩ := rated_nf G ht
  have : t.2 ∈ someL rows ws := (some_iff G).mpr ⟨h3, by rw [e, h4]⟩
  intro z
  rw [z] at this; cases this
end
end
section
open PySem PySem.Spec PyProof.Rows L2 DL RK
variable {p : Pot}
/-! ### lists of lots sorted -/
theorem toPy_ints : ∀ l : List Int, toPyAll (l.map D.int) = some (l.map PyData.int)
  | [] => rfl
  | x :: l => by
    show toPyAll (D.int x :: l.map D.int) = _
    unfold toPyAll
    rw [toPy_ints l]; rfl
theorem toPy_rows : ∀ l : List (List Int), toPyAll (l.map eI) = some (l.map fun r => PyData.list (r.map PyData.int))
  | [] => rfl
  | x :: l => by
    show toPyAll (eI x :: l.map eI) = _
    unfold toPyAll
    rw [toPy_rows l]
    unfold eI toPy
    rw [toPy_ints x]; rfl
theorem sortOk_rows (l : List (List Int)) : sortOk (l.map fun r => PyData.list (r.map PyData.int)) = true := by
  unfold sortOk
  simp only [Bool.and_eq_true, List.all_eq_true, List.mem_map]
  refine ⟨⟨?_, ?_⟩, ?_⟩
  · rintro _ ⟨a, _, rfl⟩ _ ⟨b, _, rfl⟩
    simpa [PySem.W.alike] using PySem.W.alike_ints a b
  · rintro _ ⟨a, _, rfl⟩; rfl
  · rintro _ ⟨a, _, rfl⟩
    simp [PyData.depth, PySem.W.depth_ints]
noncomputable def sortR (l : List (List Int)) : List D := sortD (l.map eI) (l.map fun r => PyData.list (r.map PyData.int))
theorem sortR_ok (l : List (List Int)) : ∃ T : List (List Int), sortR l = T.map eI ∧ (∀ r ∈ T, r ∈ l) ∧ T.length = l.length := by
  have hp : (sortR l).Perm (l.map eI) := by
    unfold sortR sortD
    refine ((List.mergeSort_perm _ _).map _).trans ?_
    rw [List.map_fst_zip (by simp)]
  have : ∀ ds : List D, (∀ d ∈ ds, d ∈ l.map eI) → ∃ T : List (List Int), ds = T.map eI ∧ ∀ r ∈ T, r ∈ l := fun ds => by
    induction ds with
    | nil => exact fun _ => ⟨[], rfl, fun _ h => absurd h (by simp)⟩
    | cons d ds ih =>
      intro h
      obtain ⟨T, h1, h2⟩ := ih fun d hd => h d (List.mem_cons_of_mem _ hd)
      obtain ⟨r, hr, rfl⟩ := List.mem_map.mp (h d List.mem_cons_self)
      refine ⟨r :: T, by rw [h1]; rfl, fun r' h' => ?_⟩
      rcases List.mem_cons.mp h' with rfl | h'
      · exact hr
      · exact h2 r' h'
  obtain ⟨T, h1, h2⟩ := this (sortR l) fun d hd => hp.mem_iff.mp hd
  refine ⟨T, h1, h2, ?_⟩
  have := hp.length_eq
  rw [h1, List.length_map, List.length_map] at this
  exact this
theorem x_sorted {ρ : DEnv} {p p1 : Pot} {h : LF} {l : List (List Int)} (e : h ρ p = some (l.map eI, p1)) : lSorted h ρ p = some (sortR l, p1) := by
  unfold lSorted
  rw [e]
  simp only [Option.bind_some]
  rw [toPy_rows]
  simp only [Option.bind_some]
  rw [if_pos (sortOk_rows l)]; rfl
/-! ### tight lots -/
def tightL (rows : List (List Int)) (ws : List (Int × Int)) : List (List Int) := (lotsOf rows.length).filter fun lot => decide ((excL rows ws lot).1 = 0)
section
variable {rows : List (List Int)} {ws : List (Int × Int)} {w b : Nat} (G : Rw rows ws w b)
include G
theorem tight_many : (tightL rows ws).length ≤ 256 := Nat.le_trans (List.length_filter_le _ _) (lots_many G)
end
/-! ### what is handed in -/
section
variable {rows : List (List Int)} {ws : List (Int × Int)} {w b : Nat} (G : Rw rows ws w b) (GL : Ls rows w b) (h0 : ∀ y ∈ ws, 0 ≤ y.1)
include G GL h0
theorem len_rows : gLen [eR rows] = some (.int (rows.length : Nat)) := by
  show some (D.int (rows.map eI).length) = _
  rw [List.length_map]
end
end
section
open PySem PySem.Spec PyProof.Rows L2 DL RK
/-! ### draws -/
def Ip (p : Pot) : Prop := 0 ≤ p.2 ∧ p.2 < 2147483648
theorem dr_go {p : Pot} {n : Int} (hp : Ip p) (h0 : 0 < n) (h1 : n < 1073741824) : ∃ i p', drawP 8329 [.pot, .int n] p = some (.int i, p') ∧ 0 ≤ i ∧ i < n ∧ Ip p' := by
  have hc : 0 < n ∧ n < 1073741824 ∧ 0 ≤ p.2 ∧ p.2 < 2147483648 ∧ (0 : Int) ≤ 8329 ∧ (8329 : Int) < 1000000 := ⟨h0, h1, hp.1, hp.2, by decide, by decide⟩
  by_cases h : 0 < p.1
  · refine ⟨p.1 % n, (p.1 / n, p.2), ?_, Int.emod_nonneg _ (by omega), Int.emod_lt_of_pos _ h0, hp⟩
    show (if _ then _ else _) = _
    rw [if_pos hc, if_pos h]
  · refine ⟨digF (mixF 8329 p.2) n, (p.1, mixF 8329 p.2), ?_, Int.emod_nonneg _ (by omega), Int.emod_lt_of_pos _ h0, ?_⟩
    · show (if _ then _ else _) = _
      rw [if_pos hc, if_neg h]
    · have h1 : 0 ≤ mixF 8329 p.2 := Int.emod_nonneg _ (by decide)
      have h2 : mixF 8329 p.2 < 2147483587 := Int.emod_lt_of_pos _ (by decide)
      refine ⟨h1, ?_⟩
      show mixF 8329 p.2 < 2147483648
      omega
theorem dr_call {ρ : DEnv} {p p1 p2 : Pot} {f g : EF} {n : Int} (hf : f ρ p = some (.pot, p1)) (hg : g ρ p1 = some (.int n, p2)) (hp : Ip p2) (h0 : 0 < n) (h1 : n < 1073741824) : ∃ i p', dCall d__law_draw (dCons f (dCons g dNil)) ρ p = some (.int i, p') ∧ 0 ≤ i ∧ i < n ∧ Ip p' := by
  obtain ⟨i, p', h, h2⟩ := dr_go hp h0 h1
  exact ⟨i, p', x_call (x_cons hf (x_cons hg rfl)) h, h2⟩
theorem pk_call {ρ : DEnv} {p p1 p2 : Pot} {f : EF} {h : LF} {ds : List D} (hf : f ρ p = some (.pot, p1)) (hh : h ρ p1 = some (ds, p2)) (hp : Ip p2) (h0 : ds ≠ []) (h1 : ds.length < 1000000) : ∃ d p', dPick 8329 f h ρ p = some (d, p') ∧ d ∈ ds ∧ Ip p' := by
  have hl : 0 < ds.length := List.length_pos_iff.mpr h0
  obtain ⟨i, p', e, e2, e3, e4⟩ := dr_go (n := (ds.length : Nat)) hp (by omega) (by omega)
  obtain ⟨k, rfl⟩ : ∃ k : Nat, i = k := ⟨i.toNat, by omega⟩
  have hk : k < ds.length := by omega
  refine ⟨ds[k], p', ?_, List.getElem_mem hk, e4⟩
  unfold dPick
  rw [hf]
  simp only [Option.bind_some]
  rw [hh]
  simp only [Option.bind_some]
  rw [e]
  show (atI ds (k : Int)).map _ = _
  rw [at_nat, List.getElem?_eq_getElem hk]; rfl
/-- a comprehension that draws -/
theorem compE {α : Type} {t : TgF} {f : EF} {ρ : DEnv} (enc : α → D) (J : D → Prop) : ∀ {xs : List α} {p : Pot}, Ip p → (∀ x ∈ xs, ∀ p, Ip p → ∃ ρ' d p', t ρ (enc x) = some ρ' ∧ f ρ' p = some (d, p') ∧ Ip p' ∧ J d) →
    ∃ ds p', dCompL t bTrue f (xs.map enc) ρ p = some (ds, p') ∧ Ip p' ∧ ds.length = xs.length ∧ ∀ d ∈ ds, J d
  | [], p, hp, _ => ⟨[], p, rfl, hp, rfl, fun _ h => absurd h (by simp)⟩
  | x :: xs, p, hp, h => by
    obtain ⟨ρ', d, p1, h1, h2, h3, h4⟩ := h x List.mem_cons_self p hp
    obtain ⟨ds, p', i1, i2, i3, i4⟩ := compE enc J (xs := xs) (p := p1) h3 fun y hy => h y (List.mem_cons_of_mem _ hy)
    refine ⟨d :: ds, p', ?_, i2, by simp [i3], fun d' hd => ?_⟩
    · show (t ρ (enc x)).bind _ = _
      rw [h1]
      show (f ρ' p).bind _ = _
      rw [h2]
      show (dCompL t bTrue f (xs.map enc) ρ p1).map _ = _
      rw [i1]; rfl
    · rcases List.mem_cons.mp hd with rfl | hd
      · exact h4
      · exact i4 d' hd
theorem list_enc {α : Type} {enc : α → D} {P : α → Prop} : ∀ {ds : List D}, (∀ d ∈ ds, ∃ y, d = enc y ∧ P y) → ∃ ys : List α, ds = ys.map enc ∧ ∀ y ∈ ys, P y
  | [], _ => ⟨[], rfl, fun _ h => absurd h (by simp)⟩
  | d :: ds, h => by
    obtain ⟨y, rfl, hy⟩ := h d List.mem_cons_self
    obtain ⟨ys, rfl, hys⟩ := list_enc (ds := ds) fun d hd => h d (List.mem_cons_of_mem _ hd)
    refine ⟨y :: ys, rfl, fun z hz => ?_⟩
    rcases List.mem_cons.mp hz with rfl | hz
    · exact hy
    · exact hys z hz
/-- a loop that draws -/
theorem forE {α S J : Type} {t : TgF} {g : SF} (enc : α → D) (R : S → J → DEnv) (I : Nat → S → Prop) : ∀ {xs : List α} {k : Nat} {s : S} {j : J} {p : Pot}, I k s → Ip p →
    (∀ i x, xs[i]? = some x → ∀ s j p, I (k + i) s → Ip p → ∃ r s' j' p', t (R s j) (enc x) = some r ∧ g r p = some (.nx, R s' j', p') ∧ I (k + i + 1) s' ∧ Ip p') → ∃ s' j' p', dForL t g (xs.map enc) (R s j) p = some (.nx, R s' j', p') ∧ I (k + xs.length) s' ∧ Ip p'
  | [], k, s, j, p, hi, hp, _ => ⟨s, j, p, rfl, hi, hp⟩
  | x :: xs, k, s, j, p, hi, hp, h => by
    obtain ⟨r, s1, j1, p1, h1, h2, h3, h4⟩ := h 0 x rfl s j p hi hp
    obtain ⟨s', j', p', ih, ii, ip⟩ := forE enc R I (xs := xs) (k := k + 1) (s := s1) (j := j1) (p := p1) h3 h4 fun i y hy s j p hs hp => by
      have := h (i + 1) y hy s j p (by rw [show k + (i + 1) = k + 1 + i by omega]; exact hs) hp
      rw [show k + (i + 1) + 1 = k + 1 + i + 1 by omega] at this
      exact this
    refine ⟨s', j', p', ?_, by rw [show k + (x :: xs).length = k + 1 + xs.length by simp; omega]; exact ii, ip⟩
    show (t (R s j) (enc x)).bind _ = _
    rw [h1]
    show (g r p).bind _ = _
    rw [h2]
    exact ih
/-! ### the law's small defs -/
variable {p : Pot}
theorem q_law_lots {n : Nat} (hn : n ≤ 10) : d__law_lots [.int (n : Nat)] p = some (eR (lotsOf n), p) := q_lots_of hn
theorem q_law_of (n : Int) : d__law_of [.int n] p = some (eQ (n, 1), p) := rfl
theorem q_law_plain {rows : List (List Int)} (hn : rows.length ≤ 65536) (hl : ∀ r ∈ rows, r.length ≤ 65536) : d__law_plain [eR rows] p = some (eQR (plains rows), p) := by
  refine x_def rfl (x_ret ((x_eL (x_comp (es := rows.map fun r => eQs (plainF r)) rfl (x_lOf rfl) (compM eI (fun r => eQs (plainF r)) fun r hr => ⟨_, rfl, ?_⟩) (by rw [List.length_map]; exact hn))).trans ?_))
  · refine (x_eL (x_comp (es := r.map fun n => eQ (n, 1)) rfl (x_lOf rfl) (compM D.int (fun n => eQ (n, 1)) fun n hn => ⟨_, rfl, x_call rfl (q_law_of n)⟩) (by rw [List.length_map]; exact hl r hr))).trans ?_
    unfold plainF eQs
    rw [List.map_map]; rfl
  · unfold eQR plains
    rw [List.map_map]; rfl
theorem low_nf_id {x : Int × Int} (h : Nf x) : low x.1 x.2 = x := by
  refine nf_uniq (low_nf h.1) h ?_
  rw [low_val (by have := h.1; omega)]; rfl
theorem q_law_ratio {x : Int × Int} (h : Nf x) (hb : Rb 8000 x) : d__law_ratio [eQ x] p = some (eA x, p) := by
  refine x_def rfl (x_ret (x_call (ds := [.int x.1, .int x.2]) (p1 := p) rfl ?_))
  have := mkRat_low (p := p) (t := x.1) h.1 (by have := hb.bot.log (by decide); omega)
  rw [low_nf_id h] at this
  exact this
theorem q_law_handed {ws : List (Int × Int)} (hl : ws.length ≤ 65536) (h : ∀ y ∈ ws, Nf y ∧ Rb 8000 y) : d__law_handed [eQs ws] p = some (.lst (ws.map eW), p) := by
  refine x_def rfl (x_ret (x_eL (x_comp rfl (x_lOf rfl) (compM eQ eW fun y hy => ⟨_, rfl, ?_⟩) (by rw [List.length_map]; exact hl))))
  have ht : bOf (dBin gEq (dBin gIx (dVar 1) (dK (.int 1))) (dK (.int 1))) [.sh (eQs ws), .sh (eQ y)] p = some (decide (y.2 = 1), p) := x_bOf (x_bin (x_bin rfl rfl (at_eQ y).2) rfl g_eq)
  unfold eW
  by_cases h1 : y.2 = 1
  · rw [decide_eq_true h1] at ht
    rw [if_pos h1]
    exact x_ifT ht (x_bin rfl rfl (at_eQ y).1)
  · rw [decide_eq_false h1] at ht
    rw [if_neg h1]
    exact x_ifF ht (x_call rfl (q_law_ratio (h y hy).1 (h y hy).2))
/-- a weight that is drawn -/
def Wt (y : Int × Int) : Prop := Nf y ∧ Rb 8 y ∧ 0 ≤ y.1
theorem wt_int {n : Int} (h : 0 ≤ n ∧ n < 9) : Wt (n, 1) := ⟨nf_int n, ⟨by show (0 : Int) < 1; decide, by unfold Bt; show n.natAbs < 2 ^ 8; omega, Bt.one (by decide)⟩, h.1⟩
theorem wt_frac {n m : Int} (h : 0 ≤ n ∧ n < 9) (hm : 0 < m ∧ m < 4) : Wt (low n m) := by
  refine ⟨low_nf hm.1, low_bt hm.1 (by unfold Bt; omega) (by unfold Bt; omega), ?_⟩
  exact Int.fdiv_nonneg h.1 (by omega)
theorem q_law_weights {n : Nat} (hn : n ≤ 60000) {p : Pot} (hp : Ip p) : ∃ ws p', d__law_weights [.pot, .int (n : Nat)] p = some (eQs ws, p') ∧ Ip p' ∧ ws.length = n ∧ ∀ y ∈ ws, Wt y := by
  obtain ⟨d, p1, h1, hd, hp1⟩ := pk_call (ρ := startD n__law_weights false [.pot, .int (n : Nat)]) (p := p) (f := dVar 0) (h := lLst (dCons (dK (.int 2)) (dCons (dK (.int 2)) (dCons (dK (.int 4)) (dCons (dK (.int 9)) (dNil)))))) rfl (x_lLst rfl (by simp)) hp (by simp) (by simp)
  obtain ⟨t, rfl, ht⟩ : ∃ t : Int, d = .int t ∧ 0 < t ∧ t ≤ 9 := by
    simp only [List.mem_cons, List.not_mem_nil, or_false] at hd
    rcases hd with rfl | rfl | rfl | rfl
    · exact ⟨2, rfl, by decide, by decide⟩
    · exact ⟨2, rfl, by decide, by decide⟩
    · exact ⟨4, rfl, by decide, by decide⟩
    · exact ⟨9, rfl, by decide, by decide⟩
  obtain ⟨ds, p2, h2, hp2, hl, hJ⟩ := compE (t := tgName .al 3) (f := dPick 8329 (dVar 0) (lLst (dCons (dTup (dCons (dCall d__law_draw (dCons (dVar 0) (dCons (dVar 2) (dNil)))) (dCons (dK (.int 1)) (dNil)))) (dCons (dCall d__law_frac (dCons (dCall d__law_draw (dCons (dVar 0) (dCons (dVar 2) (dNil)))) (dCons (dBin gAdd (dK (.int 1)) (dCall d__law_draw (dCons (dVar 0) (dCons (dK (.int 3)) (dNil))))) (dNil)))) (dNil)))))
      (ρ := [.sh .pot, .sh (.int (n : Nat)), .sh (.int t), .no]) (fun i : Nat => D.int (i : Nat)) (fun d => ∃ y, d = eQ y ∧ Wt y) (xs := List.range n) hp1 fun x hx p hp => by
    obtain ⟨i, p1, e1, a1, a2, hp1⟩ := dr_call (ρ := [.sh .pot, .sh (.int (n : Nat)), .sh (.int t), .sh (.int (x : Nat))]) (p := p) (f := dVar 0) (g := dVar 2) (n := t) rfl rfl hp ht.1 (by omega)
    obtain ⟨j, p2, e2, b1, b2, hp2⟩ := dr_call (ρ := [.sh .pot, .sh (.int (n : Nat)), .sh (.int t), .sh (.int (x : Nat))]) (p := p1) (f := dVar 0) (g := dVar 2) (n := t) rfl rfl hp1 ht.1 (by omega)
    obtain ⟨k, p3, e3, c1, c2, hp3⟩ := dr_call (ρ := [.sh .pot, .sh (.int (n : Nat)), .sh (.int t), .sh (.int (x : Nat))]) (p := p2) (f := dVar 0) (g := dK (.int 3)) (n := 3) rfl rfl hp2 (by decide) (by decide)
    have hk : (1 + k).natAbs.log2 < 8999 := by
      have : (1 + k).natAbs ≤ 3 := by omega
      have h2 : (1 + k).natAbs < 2 ^ 2 := by omega
      have : (1 + k).natAbs.log2 < 2 := (Nat.log2_lt (by omega)).mpr h2
      omega
    obtain ⟨d, p4, e4, hd, hp4⟩ := pk_call (ρ := [.sh .pot, .sh (.int (n : Nat)), .sh (.int t), .sh (.int (x : Nat))]) (p := p) (f := dVar 0) (h := lLst (dCons (dTup (dCons (dCall d__law_draw (dCons (dVar 0) (dCons (dVar 2) (dNil)))) (dCons (dK (.int 1)) (dNil)))) (dCons (dCall d__law_frac (dCons (dCall d__law_draw (dCons (dVar 0) (dCons (dVar 2) (dNil)))) (dCons (dBin gAdd (dK (.int 1)) (dCall d__law_draw (dCons (dVar 0) (dCons (dK (.int 3)) (dNil))))) (dNil)))) (dNil)))) (ds := [eQ (i, 1), eQ (low j (1 + k))]) rfl
      (x_lLst (x_cons (x_tup (x_cons e1 (x_cons rfl rfl)) (by simp)) (x_cons (x_call (x_cons e2 (x_cons (x_bin rfl e3 g_add) rfl)) (q_frac (by omega) hk)) rfl)) (by simp)) hp3 (by simp) (by simp)
    refine ⟨_, d, p4, rfl, e4, hp4, ?_⟩
    simp only [List.mem_cons, List.not_mem_nil, or_false] at hd
    rcases hd with rfl | rfl
    · exact ⟨_, rfl, wt_int ⟨a1, by omega⟩⟩
    · exact ⟨_, rfl, wt_frac ⟨b1, by omega⟩ ⟨by omega, by omega⟩⟩
  obtain ⟨ws, rfl, hw⟩ := list_enc hJ
  rw [List.length_map, List.length_range] at hl
  refine ⟨ws, p2, ?_, hp2, hl, hw⟩
  exact x_def rfl (x_seq (x_asgN h1) (x_ret (x_eL (x_comp rfl ((x_range1 rfl (by omega)).trans (by rw [Int.toNat_natCast, dInts_map])) h2 (by rw [List.length_map]; omega)))))
end
section
open PySem PySem.Spec PyProof.Rows L2 DL RK
theorem bt_times {b : Nat} {x d : Int} (h : Bt b x) (h0 : 0 ≤ d ∧ d < 3) : Bt (b + 2) (x * (2 + d)) := by
  unfold Bt at *
  rw [Int.natAbs_mul, Nat.pow_add]
  have h1 : x.natAbs * (2 + d).natAbs ≤ x.natAbs * 4 := Nat.mul_le_mul_left _ (by omega)
  have : (2 : Nat) ^ 2 = 4 := rfl
  rw [this]
  omega
/-- the number row as drawn -/
noncomputable abbrev rowF : EF := eL (lComp [11] (lRange1 (dCons (dVar 5) (dNil))) (tgName .al 11) (bTrue) (dBin gSub (dCall d__law_draw (dCons (dVar 0) (dCons (dBin gAdd (dBin gMul (dK (.int 2)) (dVar 6)) (dK (.int 1))) (dNil)))) (dVar 6)))
def Rk (w b : Nat) (r : List Int) : Prop := r.length = w ∧ ∀ x ∈ r, Bt b x
theorem q_row {w : Nat} {t : Int} (hw : w ≤ 4) (ht : 0 < t ∧ t ≤ 5) {a1 a2 a3 a7 a8 a9 a10 : Slot} {p : Pot} (hp : Ip p) : ∃ r p', rowF [.sh .pot, a1, a2, a3, .no, .sh (.int (w : Nat)), .sh (.int t), a7, a8, a9, a10, .no, .no, .no, .no] p = some (eI r, p') ∧ Ip p' ∧ Rk w 3 r := by
  obtain ⟨ds, p', h, hp', hl, hJ⟩ := compE (t := tgName .al 11) (f := dBin gSub (dCall d__law_draw (dCons (dVar 0) (dCons (dBin gAdd (dBin gMul (dK (.int 2)) (dVar 6)) (dK (.int 1))) (dNil)))) (dVar 6))
      (ρ := [.sh .pot, a1, a2, a3, .no, .sh (.int (w : Nat)), .sh (.int t), a7, a8, a9, a10, .no, .no, .no, .no]) (fun i : Nat => D.int (i : Nat)) (fun d => ∃ y : Int, d = .int y ∧ Bt 3 y) (xs := List.range w) hp fun x hx p hp => by
    obtain ⟨i, p1, e1, h1, h2, hp1⟩ := dr_call (ρ := [.sh .pot, a1, a2, a3, .no, .sh (.int (w : Nat)), .sh (.int t), a7, a8, a9, a10, .sh (.int (x : Nat)), .no, .no, .no]) (p := p) (f := dVar 0) (g := dBin gAdd (dBin gMul (dK (.int 2)) (dVar 6)) (dK (.int 1))) (n := 2 * t + 1) rfl
      (x_bin (x_bin rfl rfl (mul_ok (n := 3) (m := 4) (by unfold Bt; decide) (by unfold Bt; omega) (by decide) (by decide) (by decide))) rfl g_add) hp (by omega) (by omega)
    exact ⟨_, .int (i - t), p1, rfl, x_bin e1 rfl g_sub, hp1, i - t, rfl, by unfold Bt; omega⟩
  obtain ⟨r, rfl, hr⟩ := list_enc hJ
  rw [List.length_map, List.length_range] at hl
  exact ⟨r, p', x_eL (x_comp rfl ((x_range1 rfl (by omega)).trans (by rw [Int.toNat_natCast, dInts_map])) h (by rw [List.length_map]; omega)), hp', hl, hr⟩
def zeros (w : Nat) : List Int := List.replicate w 0
theorem x_zeros {ρ : DEnv} {p : Pot} {w : Nat} (hw : w ≤ 4) (h5 : ρ[5]? = some (.sh (.int (w : Nat)))) : dBin gMul (dLst (dCons (dK (.int 0)) (dNil))) (dVar 5) ρ p = some (eI (zeros w), p) := by
  refine x_bin (x_lst rfl (by simp)) (show dVar 5 ρ p = some (.int (w : Nat), p) by rw [ev_var, h5]) ?_
  show (if _ then _ else _) = _
  rw [if_pos ⟨by omega, by omega, by simp; omega⟩, Int.toNat_natCast]
  unfold eI zeros
  rw [List.map_replicate]
  congr 2
  have : ∀ n : Nat, (List.replicate n [D.int 0]).flatten = List.replicate n (D.int 0) := fun n => by
    induction n with
    | zero => rfl
    | succ n ih => rw [List.replicate_succ, List.replicate_succ, List.flatten_cons, ih]; rfl
  exact this w
/-! ### the loop that adds rows -/
noncomputable abbrev addBody : SF := (dSeq (dPar3 8 9 10 (dCall d__law_draw (dCons (dVar 0) (dCons (dK (.int 6)) (dNil)))) (dPick 8329 (dVar 0) (lOwn 2)) (dPick 8329 (dVar 0) (lOwn 2))) (dSeq (dAsg rowF (tgName .al 7)) (dSeq (dIte (bOf (dBin gEq (dVar 8) (dK (.int 0)))) (dAsg (eL (lComp [12] (lOf (dVar 9)) (tgName .al 12) (bTrue) (dBin gMul (dVar 12) (dBin gAdd (dK (.int 2)) (dCall d__law_draw (dCons (dVar 0) (dCons (dK (.int 3)) (dNil)))))))) (tgName .al 7)) (dNext)) (dSeq (dIte (bOf (dBin gEq (dVar 8) (dK (.int 1)))) (dAsg (eL (lComp [13, 14] (lZip (lOf (dVar 9)) (lOf (dVar 10))) (tgTup .al [13, 14]) (bTrue) (dBin gAdd (dVar 13) (dVar 14)))) (tgName .al 7)) (dNext)) (dAppend 2 (dIf (bAnd (bOf (dBin gEq (dVar 8) (dK (.int 2)))) (bOf (dBin gEq (dCall d__law_draw (dCons (dVar 0) (dCons (dK (.int 3)) (dNil)))) (dK (.int 0))))) (dBin gMul (dLst (dCons (dK (.int 0)) (dNil))) (dVar 5)) (dVar 7)))))))
def eLs (w : Nat) (t : Int) (m : Int) (rows : List (List Int)) (j : Option D × Option D × Option D × Option D × Option D) : DEnv := [.sh .pot, .sh (.int m), .ow (rows.map eI), jS j.1, .no, .sh (.int (w : Nat)), .sh (.int t), jS j.2.1, jS j.2.2.1, jS j.2.2.2.1, jS j.2.2.2.2, .no, .no, .no, .no]
theorem add_body {w : Nat} {t m : Int} {b : Nat} (hw : w ≤ 4) (ht : 0 < t ∧ t ≤ 5) {rows : List (List Int)} {j : Option D × Option D × Option D × Option D × Option D} {p : Pot} (hp : Ip p) (hr : ∀ r ∈ rows, Rk w b r) (hne : rows ≠ []) (hl : rows.length ≤ 100) (hb : 3 ≤ b) (hb2 : b ≤ 100) :
    ∃ r j' p', addBody (eLs w t m rows j) p = some (.nx, eLs w t m (rows ++ [r]) (j.1, j'), p') ∧ Ip p' ∧ Rk w (b + 2) r := by
  obtain ⟨way, p1, e1, a1, a2, hp1⟩ := dr_call (ρ := eLs w t m rows j) (p := p) (f := dVar 0) (g := dK (.int 6)) (n := 6) rfl rfl hp (by decide) (by decide)
  obtain ⟨d1, p2, e2, m1, hp2⟩ := pk_call (ρ := eLs w t m rows j) (p := p1) (f := dVar 0) (h := lOwn 2) (ds := rows.map eI) rfl rfl hp1 (by simpa using hne) (by rw [List.length_map]; omega)
  obtain ⟨d2, p3, e3, m2, hp3⟩ := pk_call (ρ := eLs w t m rows j) (p := p2) (f := dVar 0) (h := lOwn 2) (ds := rows.map eI) rfl rfl hp2 (by simpa using hne) (by rw [List.length_map]; omega)
  obtain ⟨one, ho, rfl⟩ := List.mem_map.mp m1
  obtain ⟨oth, hth, rfl⟩ := List.mem_map.mp m2
  obtain ⟨r0, p4, e4, hp4, hr0⟩ := q_row (a1 := .sh (.int m)) (a2 := .ow (rows.map eI)) (a3 := jS j.1) (a7 := jS j.2.1) (a8 := .sh (.int way)) (a9 := .sh (eI one)) (a10 := .sh (eI oth)) hw ht hp3
  -- what the row is behind way 0
  have s1 : ∃ r p', dIte (bOf (dBin gEq (dVar 8) (dK (.int 0)))) (dAsg (eL (lComp [12] (lOf (dVar 9)) (tgName .al 12) (bTrue) (dBin gMul (dVar 12) (dBin gAdd (dK (.int 2)) (dCall d__law_draw (dCons (dVar 0) (dCons (dK (.int 3)) (dNil)))))))) (tgName .al 7)) (dNext) (eLs w t m rows (j.1, some (eI r0), some (.int way), some (eI one), some (eI oth))) p4
      = some (.nx, eLs w t m rows (j.1, some (eI r), some (.int way), some (eI one), some (eI oth)), p') ∧ Ip p' ∧ Rk w (b + 2) r := by
    by_cases h : way = 0
    · subst h
      obtain ⟨ds, p', h, hp', hl2, hJ⟩ := compE (t := tgName .al 12) (f := dBin gMul (dVar 12) (dBin gAdd (dK (.int 2)) (dCall d__law_draw (dCons (dVar 0) (dCons (dK (.int 3)) (dNil))))))
          (ρ := eLs w t m rows (j.1, some (eI r0), some (.int 0), some (eI one), some (eI oth))) D.int (fun d => ∃ y : Int, d = .int y ∧ Bt (b + 2) y) (xs := one) hp4 fun x hx p hp => by
        obtain ⟨i, p1, e1, h1, h2, hp1⟩ := dr_call (ρ := [.sh .pot, .sh (.int m), .ow (rows.map eI), jS j.1, .no, .sh (.int (w : Nat)), .sh (.int t), .sh (eI r0), .sh (.int 0), .sh (eI one), .sh (eI oth), .no, .sh (.int x), .no, .no]) (p := p) (f := dVar 0) (g := dK (.int 3)) (n := 3) rfl rfl hp (by decide) (by decide)
        have hx2 := (hr one ho).2 x hx
        exact ⟨_, .int (x * (2 + i)), p1, rfl, x_bin rfl (x_bin rfl e1 g_add) (g_mul (by
          have q1 := hx2.log (by omega)
          have q2 : (2 + i).natAbs.log2 < 3 := (show Bt 3 (2 + i) by unfold Bt; omega).log (by decide)
          omega)), hp1, _, rfl, bt_times hx2 ⟨h1, h2⟩⟩
      obtain ⟨r, rfl, hr'⟩ := list_enc hJ
      rw [List.length_map] at hl2
      exact ⟨r, p', x_iteT rfl (x_asgN (x_eL (x_comp rfl (x_lOf rfl) h (by rw [List.length_map, hl2, (hr one ho).1]; omega)))), hp', by rw [hl2]; exact (hr one ho).1, hr'⟩
    · refine ⟨r0, p4, x_iteF (p1 := p4) (x_bOf ((x_bin rfl rfl g_eq).trans (by rw [decide_eq_false h]))) rfl, hp4, hr0.1, fun x hx => (hr0.2 x hx).mono (by omega)⟩
  obtain ⟨r1, p5, e5, hp5, hr1⟩ := s1
  have s2 : ∃ r, dIte (bOf (dBin gEq (dVar 8) (dK (.int 1)))) (dAsg (eL (lComp [13, 14] (lZip (lOf (dVar 9)) (lOf (dVar 10))) (tgTup .al [13, 14]) (bTrue) (dBin gAdd (dVar 13) (dVar 14)))) (tgName .al 7)) (dNext) (eLs w t m rows (j.1, some (eI r1), some (.int way), some (eI one), some (eI oth))) p5
      = some (.nx, eLs w t m rows (j.1, some (eI r), some (.int way), some (eI one), some (eI oth)), p5) ∧ Rk w (b + 2) r := by
    by_cases h : way = 1
    · subst h
      refine ⟨(one.zip oth).map fun z => z.1 + z.2, x_iteT rfl (x_asgN (x_eL (x_comp (es := ((one.zip oth).map fun z => z.1 + z.2).map D.int) rfl ((x_zip (x_lOf rfl) (x_lOf rfl)).trans (by rw [zip_enc])) ?_ ?_))), ?_, fun x hx => ?_⟩
      · rw [List.map_map]
        exact compM (fun z : Int × Int => D.tup [.int z.1, .int z.2]) (fun z => D.int (z.1 + z.2)) fun z hz => ⟨_, rfl, x_bin rfl rfl g_add⟩
      · rw [List.length_map, List.length_map, List.length_zip, (hr one ho).1]; omega
      · rw [List.length_map, List.length_zip, (hr one ho).1, (hr oth hth).1]; omega
      · obtain ⟨z, hz, rfl⟩ := List.mem_map.mp hx
        obtain ⟨z1, z2⟩ := List.of_mem_zip hz
        exact (((hr one ho).2 _ z1).add ((hr oth hth).2 _ z2)).mono (by omega)
    · exact ⟨r1, x_iteF (p1 := p5) (x_bOf ((x_bin rfl rfl g_eq).trans (by rw [decide_eq_false h]))) rfl, hr1⟩
  obtain ⟨r2, e6, hr2⟩ := s2
  have s3 : ∃ r p', dIf (bAnd (bOf (dBin gEq (dVar 8) (dK (.int 2)))) (bOf (dBin gEq (dCall d__law_draw (dCons (dVar 0) (dCons (dK (.int 3)) (dNil)))) (dK (.int 0))))) (dBin gMul (dLst (dCons (dK (.int 0)) (dNil))) (dVar 5)) (dVar 7) (eLs w t m rows (j.1, some (eI r2), some (.int way), some (eI one), some (eI oth))) p5 = some (eI r, p') ∧ Ip p' ∧ Rk w (b + 2) r := by
    by_cases h : way = 2
    · obtain ⟨i, p1, e1, h1, h2, hp1⟩ := dr_call (ρ := eLs w t m rows (j.1, some (eI r2), some (.int way), some (eI one), some (eI oth))) (p := p5) (f := dVar 0) (g := dK (.int 3)) (n := 3) rfl rfl hp5 (by decide) (by decide)
      have hc : bAnd (bOf (dBin gEq (dVar 8) (dK (.int 2)))) (bOf (dBin gEq (dCall d__law_draw (dCons (dVar 0) (dCons (dK (.int 3)) (dNil)))) (dK (.int 0)))) (eLs w t m rows (j.1, some (eI r2), some (.int way), some (eI one), some (eI oth))) p5 = some (decide (i = 0), p1) := by
        refine x_bAnd (b := true) (x_bOf ((x_bin rfl rfl g_eq).trans (by rw [decide_eq_true h]))) ?_
        rw [if_pos rfl]
        exact x_bOf (x_bin e1 rfl g_eq)
      by_cases hi : i = 0
      · rw [decide_eq_true hi] at hc
        exact ⟨zeros w, p1, x_ifT hc (x_zeros hw rfl), hp1, by unfold zeros; rw [List.length_replicate], fun x hx => by
          unfold zeros at hx
          rw [(List.mem_replicate.mp hx).2]; exact Bt.zero⟩
      · rw [decide_eq_false hi] at hc
        exact ⟨r2, p1, x_ifF hc rfl, hp1, hr2⟩
    · refine ⟨r2, p5, x_ifF (p1 := p5) (x_bAnd (b := false) (x_bOf ((x_bin rfl rfl g_eq).trans (by rw [decide_eq_false h]))) (by rw [if_neg Bool.false_ne_true])) rfl, hp5, hr2⟩
  obtain ⟨r3, p6, e7, hp6, hr3⟩ := s3
  refine ⟨r3, (some (eI r2), some (.int way), some (eI one), some (eI oth)), p6, ?_, hp6, hr3⟩
  have h1 : dPar3 8 9 10 (dCall d__law_draw (dCons (dVar 0) (dCons (dK (.int 6)) (dNil)))) (dPick 8329 (dVar 0) (lOwn 2)) (dPick 8329 (dVar 0) (lOwn 2)) (eLs w t m rows j) p = some (.nx, eLs w t m rows (j.1, j.2.1, some (.int way), some (eI one), some (eI oth)), p3) := by
    rw [ev_par3, e1]
    simp only [Option.bind_some]
    rw [e2]
    simp only [Option.bind_some]
    rw [e3]; rfl
  refine x_seq h1 (x_seq (x_asgN e4) (x_seq e5 (x_seq e6 ?_)))
  show (if (rows.map eI).length < 65536 then _ else _) = _
  rw [if_pos (by rw [List.length_map]; omega), e7]
  show some (Fl.nx, _, p6) = _
  unfold eLs
  rw [List.map_append]; rfl
end
section
open PySem PySem.Spec PyProof.Rows L2 DL RK
theorem rank_pos {rows : List (List Int)} {w : Nat} (hw : ∀ r ∈ rows, r.length = w) {r : List Int} (hr : r ∈ rows) {j : Nat} (hj : r.getD j 0 ≠ 0) : 0 < intRank rows := by
  rw [intRank_eq hw]
  refine rk_pos (v := vi r) (j := j) (List.mem_map_of_mem hr) ?_
  exact cast_ne hj
def Nz (rows : List (List Int)) : Prop := ∃ r ∈ rows, ∃ j, r.getD j 0 ≠ 0
theorem nz_of {w : Nat} {rows : List (List Int)} (hw : ∀ r ∈ rows, r.length = w) (h : ¬ ∀ r ∈ rows, r = zeros w) : Nz rows := by
  apply Classical.byContradiction
  intro hn
  refine h fun r hr => ?_
  unfold zeros
  refine List.eq_replicate_iff.mpr ⟨hw r hr, fun x hx => ?_⟩
  apply Classical.byContradiction
  intro hx0
  obtain ⟨j, hj⟩ := List.getElem?_of_mem hx
  exact hn ⟨r, hr, j, by rw [List.getD_eq_getElem?_getD, hj]; exact hx0⟩
theorem eqI {l m : List Int} : gEq (eI l) (eI m) = some (.bl (decide (l = m))) := by
  refine gEq_pl (pl_eI l).1 (pl_eI m).1 (Nat.le_trans (pl_eI l).2 (by decide)) (Nat.le_trans (pl_eI m).2 (by decide)) ?_
  rw [decide_eq_true_iff]
  exact ⟨fun h => by rw [h], fun h => eI_inj.mp h⟩
theorem er_map {α β : Type} (f : α → β) : ∀ (l : List α) (k : Nat), (l.map f).eraseIdx k = (l.eraseIdx k).map f
  | [], _ => rfl
  | _ :: _, 0 => rfl
  | x :: l, k + 1 => by
    show f x :: (l.map f).eraseIdx k = f x :: (l.eraseIdx k).map f
    rw [er_map f l k]
theorem x_move {ρ : DEnv} {p p1 : Pot} {f : EF} {i j n : Nat} {l m : List D} {d : D} (hi : ρ[i]? = some (.ow l)) (hj : ρ[j]? = some (.ow m)) (hij : i ≠ j) (hl : l.length < 65536) (hf : f ρ p = some (.int (n : Nat), p1)) (hn : n < 65536) (hd : m[n]? = some d) :
    dMove i j f ρ p = some (.nx, (ρ.set j (.ow (m.eraseIdx n))).set i (.ow (l ++ [d])), p1) := by
  unfold dMove
  rw [hi, hj]
  dsimp only
  rw [if_neg (by omega), hf]
  simp only [Option.bind_some]
  rw [if_pos ⟨by omega, by omega⟩, Int.toNat_natCast, hd]
  rfl
def eO (w : Nat) (t m : Int) (left order : List (List Int)) (j : Option D) (o : Option D × Option D × Option D × Option D) : DEnv := [.sh .pot, .sh (.int m), .ow (left.map eI), jS j, .ow (order.map eI), .sh (.int (w : Nat)), .sh (.int t), jS o.1, jS o.2.1, jS o.2.2.1, jS o.2.2.2, .no, .no, .no, .no]
theorem move_body {w : Nat} {t m : Int} {left order : List (List Int)} {j : Option D} {o : Option D × Option D × Option D × Option D} {p : Pot} (hp : Ip p) (hl : 0 < left.length) (hl2 : left.length ≤ 100) (ho : order.length ≤ 100) :
    ∃ l' o' p', dMove 4 2 (dCall d__law_draw (dCons (dVar 0) (dCons (dLenL (lOwn 2)) (dNil)))) (eO w t m left order j o) p = some (.nx, eO w t m l' o' j o, p') ∧ Ip p' ∧ (l' ++ o').Perm (left ++ order) ∧ l'.length + 1 = left.length := by
  have hlen : dLenL (lOwn 2) (eO w t m left order j o) p = some (.int (left.length : Nat), p) := by
    show some (D.int (left.map eI).length, p) = _
    rw [List.length_map]
  obtain ⟨i, p1, e1, a1, a2, hp1⟩ := dr_call (ρ := eO w t m left order j o) (p := p) (f := dVar 0) (g := dLenL (lOwn 2)) (n := (left.length : Nat)) rfl hlen hp (by omega) (by omega)
  obtain ⟨k, rfl⟩ : ∃ k : Nat, i = k := ⟨i.toNat, by omega⟩
  have hk : k < left.length := by omega
  refine ⟨left.eraseIdx k, order ++ [left[k]], p1, ?_, hp1, ?_, by rw [List.length_eraseIdx]; split <;> omega⟩
  · have e8 : (left.map eI).eraseIdx k = (left.eraseIdx k).map eI := er_map eI left k
    have e9 : (order ++ [left[k]]).map eI = order.map eI ++ [eI left[k]] := by rw [List.map_append]; rfl
    refine (x_move (l := order.map eI) (m := left.map eI) (n := k) (d := eI left[k]) rfl rfl (by decide) (by rw [List.length_map]; omega) e1 (by omega) (by rw [List.getElem?_map, List.getElem?_eq_getElem hk]; rfl)).trans ?_
    unfold eO
    rw [e8, ← e9]; rfl
  · have h1 : (left[k] :: left.eraseIdx k).Perm left := by
      rw [List.eraseIdx_eq_take_drop_succ]
      have e : left = left.take k ++ left[k] :: left.drop (k + 1) := by
        rw [← List.drop_eq_getElem_cons hk, List.take_append_drop]
      refine List.perm_middle.symm.trans ?_
      rw [← e]
    have h2 : (left.eraseIdx k ++ (order ++ [left[k]])).Perm (left[k] :: left.eraseIdx k ++ order) := by
      rw [← List.append_assoc]
      exact List.perm_append_comm
    exact h2.trans (h1.append_right order)
/-- the law's lists -/
theorem q_law_lists {p : Pot} (hp : Ip p) : ∃ rows w p', d__law_lists [.pot, .int 7] p = some (eR rows, p') ∧ Ip p' ∧ Ls rows w 18 := by
  -- wide, top
  obtain ⟨i, p1, e1, a1, a2, hp1⟩ := dr_call (ρ := startD n__law_lists false [.pot, .int 7]) (p := p) (f := dVar 0) (g := dK (.int 4)) (n := 4) rfl rfl hp (by decide) (by decide)
  obtain ⟨d, p2, e2, hd, hp2⟩ := pk_call (ρ := startD n__law_lists false [.pot, .int 7]) (p := p1) (f := dVar 0) (h := lLst (dCons (dK (.int 1)) (dCons (dK (.int 2)) (dCons (dK (.int 5)) (dNil))))) rfl (x_lLst rfl (by simp)) hp1 (by simp) (by simp)
  obtain ⟨t, rfl, ht⟩ : ∃ t : Int, d = .int t ∧ 0 < t ∧ t ≤ 5 := by
    simp only [List.mem_cons, List.not_mem_nil, or_false] at hd
    rcases hd with rfl | rfl | rfl
    · exact ⟨1, rfl, by decide, by decide⟩
    · exact ⟨2, rfl, by decide, by decide⟩
    · exact ⟨5, rfl, by decide, by decide⟩
  obtain ⟨w, hw⟩ : ∃ w : Nat, 1 + i = w := ⟨(1 + i).toNat, by omega⟩
  have hw1 : 1 ≤ w := by omega
  have hw4 : w ≤ 4 := by omega
  have s1 : dAsg (dTup (dCons (dBin gAdd (dK (.int 1)) (dCall d__law_draw (dCons (dVar 0) (dCons (dK (.int 4)) (dNil))))) (dCons (dPick 8329 (dVar 0) (lLst (dCons (dK (.int 1)) (dCons (dK (.int 2)) (dCons (dK (.int 5)) (dNil)))))) (dNil)))) (tgTup .al [5, 6]) (startD n__law_lists false [.pot, .int 7]) p
      = some (.nx, [.sh .pot, .sh (.int 7), .no, .no, .no, .sh (.int (w : Nat)), .sh (.int t), .no, .no, .no, .no, .no, .no, .no, .no], p2) := by
    refine x_asg (x_tup (x_cons (x_bin rfl e1 g_add) (x_cons e2 rfl)) (by simp)) ?_
    rw [hw]; rfl
  obtain ⟨r0, p3, e3, hp3, hr0⟩ := q_row (a1 := .sh (.int 7)) (a2 := .no) (a3 := .no) (a7 := .no) (a8 := .no) (a9 := .no) (a10 := .no) hw4 ht hp2
  have s2 : dOwn (lLst (dCons rowF (dNil))) 2 [.sh .pot, .sh (.int 7), .no, .no, .no, .sh (.int (w : Nat)), .sh (.int t), .no, .no, .no, .no, .no, .no, .no, .no] p2 = some (.nx, eLs w t 7 [r0] (none, none, none, none, none), p3) :=
    x_own (x_lLst (x_cons e3 rfl) (by simp))
  obtain ⟨n, p4, e4, b1, b2, hp4⟩ := dr_call (ρ := eLs w t 7 [r0] (none, none, none, none, none)) (p := p3) (f := dVar 0) (g := dVar 1) (n := 7) rfl rfl hp3 (by decide) (by decide)
  obtain ⟨n, rfl⟩ : ∃ k : Nat, n = k := ⟨n.toNat, by omega⟩
  obtain ⟨rows, j, p5, e5, ⟨hR, hL⟩, hp5⟩ := forE (t := tgName .al 3) (g := addBody) (fun i : Nat => D.int (i : Nat)) (fun rows j => eLs w t 7 rows j) (fun k rows => (∀ r ∈ rows, Rk w (3 + 2 * k) r) ∧ rows.length = k + 1) (xs := List.range n) (k := 0) (s := [r0]) (j := (none, none, none, none, none)) (p := p4)
    ⟨fun r hr => by rw [List.mem_singleton.mp hr]; exact hr0, rfl⟩ hp4 fun i x hx rows j p hI hp => by
      obtain ⟨hi1, hi2⟩ := List.getElem?_eq_some_iff.mp hx
      have hin : i < n := by simpa using hi1
      rw [Nat.zero_add] at hI ⊢
      obtain ⟨h1, h2⟩ := hI
      obtain ⟨r, j', p', q1, q2, q3⟩ := add_body (t := t) (m := 7) (b := 3 + 2 * i) (j := (some (.int (x : Nat)), j.2)) hw4 ht hp h1 (fun z => by rw [z] at h2; simp at h2) (by omega) (by omega) (by omega)
      refine ⟨_, rows ++ [r], _, p', rfl, q1, ⟨fun r' hr' => ?_, by rw [List.length_append, h2]; rfl⟩, q2⟩
      rcases List.mem_append.mp hr' with q | q
      · exact ⟨(h1 r' q).1, fun y hy => ((h1 r' q).2 y hy).mono (by omega)⟩
      · rw [List.mem_singleton.mp q]
        exact ⟨q3.1, fun y hy => (q3.2 y hy).mono (by omega)⟩
  rw [List.length_range, Nat.zero_add] at hR hL
  have hn7 : n < 7 := by omega
  -- never all noughts
  have s4 : ∃ rows', dIte (bOf (dApp gAll (dCons (eL (lComp [7] (lOwn 2) (tgName .al 7) (bTrue) (dBin gEq (dVar 7) (dBin gMul (dLst (dCons (dK (.int 0)) (dNil))) (dVar 5))))) (dNil)))) (dPut 2 (dK (.int 0)) (dBin gAdd (dLst (dCons (dK (.int 1)) (dNil))) (eL (lSl (lOf (dIxL (lOwn 2) (dK (.int 0)))) (oSome (dK (.int 1))) (oNone))))) (dNext) (eLs w t 7 rows j) p5
      = some (.nx, eLs w t 7 rows' j, p5) ∧ (∀ r ∈ rows', Rk w 18 r) ∧ rows'.length = n + 1 ∧ Nz rows' := by
    have hc : dApp gAll (dCons (eL (lComp [7] (lOwn 2) (tgName .al 7) (bTrue) (dBin gEq (dVar 7) (dBin gMul (dLst (dCons (dK (.int 0)) (dNil))) (dVar 5))))) (dNil)) (eLs w t 7 rows j) p5 = some (.bl (rows.all fun r => decide (r = zeros w)), p5) := by
      refine x_app (x_cons (x_eL (x_comp (es := rows.map fun r => D.bl (decide (r = zeros w))) (by obtain ⟨j1, j2, j3, j4, j5⟩ := j; cases j2 <;> rfl) rfl (compM eI (fun r => D.bl (decide (r = zeros w))) fun r hr => ⟨_, rfl, x_bin rfl (x_zeros hw4 rfl) eqI⟩) (by rw [List.length_map]; omega))) rfl) ?_
      have := g_all (l := rows.map fun r => decide (r = zeros w))
      rw [List.map_map] at this
      rw [show (rows.map fun r => D.bl (decide (r = zeros w))) = rows.map (D.bl ∘ fun r => decide (r = zeros w)) from rfl, this, List.all_map]
      rfl
    by_cases h : ∀ r ∈ rows, r = zeros w
    · have hb : (rows.all fun r => decide (r = zeros w)) = true := List.all_eq_true.mpr fun r hr => decide_eq_true (h r hr)
      rw [hb] at hc
      obtain ⟨r1, rs, hrs⟩ : ∃ r1 rs, rows = r1 :: rs := by
        cases hrw : rows with
        | nil => rw [hrw] at hL; simp at hL
        | cons r1 rs => exact ⟨r1, rs, rfl⟩
      subst hrs
      have hr1 := hR r1 List.mem_cons_self
      refine ⟨(1 :: r1.drop 1) :: rs, x_iteT (x_bOf hc) ?_, fun r hr => ?_, by simpa using hL, _, List.mem_cons_self, 0, by show (1 : Int) ≠ 0; decide⟩
      · have hv : dBin gAdd (dLst (dCons (dK (.int 1)) (dNil))) (eL (lSl (lOf (dIxL (lOwn 2) (dK (.int 0)))) (oSome (dK (.int 1))) (oNone))) (eLs w t 7 (r1 :: rs) j) p5 = some (eI (1 :: r1.drop 1), p5) := by
          refine x_bin (x_lst rfl (by simp)) (x_eL (x_slFrom (i := 1) (ds := r1.map D.int) (x_lOf (by
            show (atI ((r1 :: rs).map eI) 0).map _ = _
            rw [at_0]; rfl)) rfl (by rw [List.length_map, hr1.1]; exact hw1))) ?_
          show (if _ then _ else _) = _
          rw [if_pos (by rw [List.length_drop, List.length_map, hr1.1]; simp; omega), ← List.map_drop]; rfl
        show (_ : Option _).bind _ = _
        rw [hv]
        show (ixN ((r1 :: rs).map eI).length 0).map _ = _
        rw [show ixN ((r1 :: rs).map eI).length 0 = some 0 from by unfold ixN; simp]
        rfl
      · rcases List.mem_cons.mp hr with rfl | hr
        · refine ⟨by simp [hr1.1]; omega, fun y hy => ?_⟩
          rcases List.mem_cons.mp hy with rfl | hy
          · exact Bt.one (by decide)
          · exact (hr1.2 y (List.mem_of_mem_drop hy)).mono (by omega)
        · have := hR r (List.mem_cons_of_mem _ hr)
          exact ⟨this.1, fun y hy => (this.2 y hy).mono (by omega)⟩
    · have hb : (rows.all fun r => decide (r = zeros w)) = false := by
        rw [Bool.eq_false_iff]
        intro hz
        exact h fun r hr => by simpa using List.all_eq_true.mp hz r hr
      rw [hb] at hc
      refine ⟨rows, x_iteF (x_bOf hc) rfl, fun r hr => ⟨(hR r hr).1, fun y hy => ((hR r hr).2 y hy).mono (by omega)⟩, hL, nz_of (fun r hr => (hR r hr).1) h⟩
  obtain ⟨rows', e6, hR', hL', hN⟩ := s4
  have s5 : dOwn (lLst (dNil)) 4 (eLs w t 7 rows' j) p5 = some (.nx, eO w t 7 rows' [] j.1 j.2, p5) := rfl
  obtain ⟨⟨left, order⟩, j2, p6, e7, ⟨hP, hLen⟩, hp6⟩ := forE (t := tgName .al 3) (g := dMove 4 2 (dCall d__law_draw (dCons (dVar 0) (dCons (dLenL (lOwn 2)) (dNil))))) (fun i : Nat => D.int (i : Nat)) (fun (s : List (List Int) × List (List Int)) j' => eO w t 7 s.1 s.2 j' j.2) (fun k s => (s.1 ++ s.2).Perm rows' ∧ s.1.length + k = rows'.length) (xs := List.range rows'.length) (k := 0) (s := (rows', [])) (j := j.1) (p := p5)
    ⟨by rw [List.append_nil], rfl⟩ hp5 fun i x hx s j' p hI hp => by
      obtain ⟨hi1, hi2⟩ := List.getElem?_eq_some_iff.mp hx
      have hin : i < rows'.length := by simpa using hi1
      rw [Nat.zero_add] at hI ⊢
      obtain ⟨h1, h2⟩ := hI
      have h3 := h1.length_eq
      rw [List.length_append] at h3
      obtain ⟨l', o', p', q1, q2, q3, q4⟩ := move_body (w := w) (t := t) (m := 7) (left := s.1) (order := s.2) (j := some (.int (x : Nat))) (o := j.2) hp (by omega) (by omega) (by omega)
      exact ⟨_, (l', o'), some (.int (x : Nat)), p', rfl, q1, ⟨q3.trans h1, by show l'.length + (i + 1) = _; omega⟩, q2⟩
  rw [List.length_range, Nat.zero_add] at hLen
  dsimp only at hP hLen e7
  obtain rfl : left = [] := List.eq_nil_of_length_eq_zero (by omega)
  rw [List.nil_append] at hP
  have hmem : ∀ r, r ∈ order ↔ r ∈ rows' := fun r => hP.mem_iff
  obtain ⟨rn, hrn, jn, hjn⟩ := hN
  have hlenR : lRange1 (dCons (dLenL (lOwn 2)) (dNil)) (eO w t 7 rows' [] j.1 j.2) p5 = some ((List.range rows'.length).map fun i => D.int (i : Nat), p5) := by
    have hlen : dLenL (lOwn 2) (eO w t 7 rows' [] j.1 j.2) p5 = some (.int (rows'.length : Nat), p5) := by
      show some (D.int (rows'.map eI).length, p5) = _
      rw [List.length_map]
    exact (x_range1 (x_cons hlen rfl) (by omega)).trans (by rw [Int.toNat_natCast, dInts_map])
  refine ⟨order, w, p6, ?_, hp6, ?_⟩
  · exact x_def rfl (x_seq s1 (x_seq s2 (x_seq (x_for ((x_range1 (x_cons e4 rfl) (by omega)).trans (by rw [Int.toNat_natCast, dInts_map])) e5) (x_seq e6 (x_seq s5 (x_seq (x_for hlenR e7) (x_ret rfl)))))))
  · refine ⟨fun r hr => (hR' r ((hmem r).mp hr)).1, hw1, hw4, fun r hr => (hR' r ((hmem r).mp hr)).2, by decide, by decide, by rw [hP.length_eq]; omega, by rw [hP.length_eq]; omega, ?_⟩
    exact rank_pos (fun r hr => (hR' r ((hmem r).mp hr)).1) ((hmem rn).mpr hrn) hjn
end
section
open PySem PySem.Spec PyProof.Rows L2 DL RK
variable {p : Pot}
/-! ### texts of numbers -/
/-- a text that may be laid -/
def sOk (x : Str) : Prop := PyData.strOk x = true
theorem sOk_app {x y : Str} (h1 : sOk x) (h2 : sOk y) : sOk (x ++ y) := by
  unfold sOk PyData.strOk at *
  rw [PySem.Str.cps_append, Array.all_append, h1, h2]; rfl
theorem sOk_of (s : String) : sOk (Str.ofString s) := by
  unfold sOk PyData.strOk
  rw [Str.ofString_eq_toList]
  simp only [List.all_toArray, List.all_eq_true, List.mem_map, decide_eq_true_iff]
  rintro _ ⟨c, _, rfl⟩
  have := c.valid
  unfold Char.toNat
  rcases this with h | ⟨_, h⟩
  · omega
  · exact h
theorem sOk_empty : sOk Str.empty := by
  unfold sOk PyData.strOk Str.empty
  simp
theorem int_len {a : Int} {k : Nat} (hk : 0 < k) (h : Bt k a) : (Str.ofString (toString a)).length ≤ k + 1 := by
  rw [PySem.ofString_length]
  exact int_text_length_le hk (h.log hk)
theorem txt_int {a : Int} {k : Nat} (hk : 0 < k) (hk2 : k < 1900) (h : Bt k a) : txtOf (.int a) = some (Str.ofString (toString a)) := by
  have := h.log hk
  show (if a.natAbs.log2 < 1920 then _ else _) = _
  rw [if_pos (by omega)]
theorem while_no {c : BF} {g : SF} {ρ : DEnv} {p p1 : Pot} (h : c ρ p = some (false, p1)) : dWhile c g ρ p = some (.nx, ρ, p1) := by
  refine dWhile_eq (n := 1) ?_
  unfold dLoop
  rw [h]; rfl
theorem x_js {fs : List EF} {f : EF} {acc y : Str} {ρ : DEnv} {p p1 : Pot} {d : D} {r : Option (Str × Pot)} (h : f ρ p = some (d, p1)) (ht : txtOf d = some y) (hl : (acc ++ y).length ≤ 65536) (h2 : dJs fs (acc ++ y) ρ p1 = r) : dJs (f :: fs) acc ρ p = r := by
  show (f ρ p).bind _ = _
  rw [h]
  simp only [Option.bind_some]
  rw [ht]
  simp only [Option.bind_some]
  rw [if_pos hl]; exact h2
theorem q_digits {a : Int} {k : Nat} (hk : 0 < k) (hk2 : k ≤ 190) (h : Bt k a) : ∃ t, (∀ p, d_digits_of [.int a] p = some (.str t, p)) ∧ t.length ≤ k + 3 ∧ sOk t := by
  have hb : Bt k ((a.natAbs : Nat) : Int) := by unfold Bt at *; omega
  have hlt : ((a.natAbs : Nat) : Int) < c_PART := by
    have h1 : a.natAbs < 2 ^ k := h
    have h2 : 2 ^ k ≤ 2 ^ 190 := Nat.pow_le_pow_right (by decide) hk2
    have h3 : ((2 ^ 190 : Nat) : Int) < c_PART := by unfold c_PART; decide
    omega
  have e1 : ∀ p, dIf (bOf (dBin gGe (dVar 0) (dK (.int 0)))) (dVar 0) (dBin gSub (dK (.int 0)) (dVar 0)) (startD n_digits_of false [.int a]) p = some (.int ((a.natAbs : Nat) : Int), p) := fun p => by
    have ht : bOf (dBin gGe (dVar 0) (dK (.int 0))) (startD n_digits_of false [.int a]) p = some (decide (a ≥ 0), p) := x_bOf (x_bin rfl rfl g_rel)
    by_cases h0 : a ≥ 0
    · rw [decide_eq_true h0] at ht
      refine x_ifT ht ?_
      rw [show ((a.natAbs : Nat) : Int) = a by omega]; rfl
    · rw [decide_eq_false h0] at ht
      refine x_ifF ht ((x_bin rfl rfl g_sub).trans ?_)
      rw [show ((a.natAbs : Nat) : Int) = 0 - a by omega]
  have fin : ∀ (sg : Str), sg.length ≤ 1 → sOk sg → ∃ t, (∀ p, dJoin [dVar 1, dVar 2, dVar 3] [.sh (.int a), .sh (.str sg), .sh (.int ((a.natAbs : Nat) : Int)), .sh (.str ""), .no] p = some (.str t, p)) ∧ t.length ≤ k + 3 ∧ sOk t := fun sg hs ho => by
    have hn := int_len hk hb
    have l0 : (Str.empty : Str).length = 0 := rfl
    have l1 : ((("" : String) : Str)).length = 0 := rfl
    refine ⟨Str.empty ++ sg ++ Str.ofString (toString ((a.natAbs : Nat) : Int)) ++ (("" : String) : Str), fun p => ?_, by rw [strLen_append, strLen_append, strLen_append]; omega, sOk_app (sOk_app (sOk_app sOk_empty ho) (sOk_of _)) (sOk_of _)⟩
    unfold dJoin
    have : dJs [dVar 1, dVar 2, dVar 3] Str.empty [.sh (.int a), .sh (.str sg), .sh (.int ((a.natAbs : Nat) : Int)), .sh (.str ""), .no] p = some (Str.empty ++ sg ++ Str.ofString (toString ((a.natAbs : Nat) : Int)) ++ (("" : String) : Str), p) :=
      x_js (d := .str sg) (y := sg) rfl rfl (by rw [strLen_append]; omega) (x_js (d := .int ((a.natAbs : Nat) : Int)) rfl (txt_int hk (by omega) hb) (by rw [strLen_append, strLen_append]; omega) (x_js (d := .str "") (y := (("" : String) : Str)) rfl rfl (by rw [strLen_append, strLen_append, strLen_append]; omega) rfl))
    rw [this]; rfl
  have wh : ∀ p, dWhile (bOf (dBin gGe (dVar 2) (dK (.int c_PART)))) dFail [.sh (.int a), .no, .sh (.int ((a.natAbs : Nat) : Int)), .sh (.str ""), .no] p = some (.nx, [.sh (.int a), .no, .sh (.int ((a.natAbs : Nat) : Int)), .sh (.str ""), .no], p) := fun p =>
    while_no (x_bOf ((x_bin rfl rfl g_rel).trans (by rw [decide_eq_false (by omega)])))
  have par : ∀ p, dPar 2 3 (dIf (bOf (dBin gGe (dVar 0) (dK (.int 0)))) (dVar 0) (dBin gSub (dK (.int 0)) (dVar 0))) (dK (.str "")) (startD n_digits_of false [.int a]) p = some (.nx, [.sh (.int a), .no, .sh (.int ((a.natAbs : Nat) : Int)), .sh (.str ""), .no], p) := fun p => by
    rw [ev_par, e1 p]; rfl
  by_cases hn : a < 0
  · obtain ⟨t, h1, h2⟩ := fin "-" (by decide) (sOk_of _)
    exact ⟨t, fun p => x_def rfl (x_seq (par p) (x_seq (wh p) (x_seq (x_asgN (x_ifT (x_bOf ((x_bin rfl rfl g_rel).trans (by rw [decide_eq_true hn]))) rfl)) (x_ret (h1 p))))), h2⟩
  · obtain ⟨t, h1, h2⟩ := fin "" (by decide) (sOk_of _)
    exact ⟨t, fun p => x_def rfl (x_seq (par p) (x_seq (wh p) (x_seq (x_asgN (x_ifF (x_bOf ((x_bin rfl rfl g_rel).trans (by rw [decide_eq_false hn]))) rfl)) (x_ret (h1 p))))), h2⟩
theorem q_Rrepr {t b : Int} {k : Nat} (hk : 0 < k) (hk2 : k ≤ 190) (h1 : Bt k t) (h2 : Bt k b) : ∃ x, (∀ p, d_Rt_repr [.rat t b] p = some (.str x, p)) ∧ x.length ≤ 2 * k + 20 ∧ sOk x := by
  obtain ⟨y, e1, l1, o1⟩ := q_digits hk hk2 h1
  obtain ⟨z, e2, l2, o2⟩ := q_digits hk hk2 h2
  have a0 : (Str.empty : Str).length = 0 := rfl
  have a1 : ((("Ratio(" : String) : Str)).length = 6 := rfl
  have a2 : (((", " : String) : Str)).length = 2 := rfl
  have a3 : (((")" : String) : Str)).length = 1 := rfl
  refine ⟨Str.empty ++ (("Ratio(" : String) : Str) ++ y ++ ((", " : String) : Str) ++ z ++ ((")" : String) : Str), fun p => x_def rfl (x_ret ?_), by simp only [strLen_append]; omega, sOk_app (sOk_app (sOk_app (sOk_app (sOk_app sOk_empty (sOk_of _)) o1) (sOk_of _)) o2) (sOk_of _)⟩
  unfold dJoin
  have : dJs [dK (.str "Ratio("), dCall d_digits_of (dCons (dFld .own_top (dVar 0)) (dNil)), dK (.str ", "), dCall d_digits_of (dCons (dFld .own_bottom (dVar 0)) (dNil)), dK (.str ")")] Str.empty [.sh (.rat t b)] p = some (Str.empty ++ (("Ratio(" : String) : Str) ++ y ++ ((", " : String) : Str) ++ z ++ ((")" : String) : Str), p) :=
    x_js (d := .str "Ratio(") (y := (("Ratio(" : String) : Str)) rfl rfl (by simp only [strLen_append]; omega) (x_js (d := .str y) (y := y) (x_call rfl (e1 p)) rfl (by simp only [strLen_append]; omega) (x_js (d := .str ", ") (y := ((", " : String) : Str)) rfl rfl (by simp only [strLen_append]; omega)
      (x_js (d := .str z) (y := z) (x_call rfl (e2 p)) rfl (by simp only [strLen_append]; omega) (x_js (d := .str ")") (y := ((")" : String) : Str)) rfl rfl (by simp only [strLen_append]; omega) rfl))))
  show (dJs _ _ [.sh (.rat t b)] p).map _ = _
  rw [this]; rfl
end
section
open PySem PySem.Spec PyProof.Rows L2 DL RK
/-! ### texts of data -/
mutual
def okT : D → Bool
  | .non | .bl _ => true
  | .int i => decide (i.natAbs < 2 ^ 190)
  | .rat t b => decide (t.natAbs < 2 ^ 190) && decide (b.natAbs < 2 ^ 190)
  | .lst l | .tup l => okAll l
  | _ => false
def okAll : List D → Bool
  | [] => true
  | d :: ds => okT d && okAll ds
end
mutual
def szD : D → Nat
  | .non => 4
  | .bl _ => 5
  | .int i => i.natAbs.log2 + 2
  | .rat t b => 2 * max t.natAbs.log2 b.natAbs.log2 + 22
  | .lst l => szAll l + 2
  | .tup l => szAll l + 3
  | _ => 0
def szAll : List D → Nat
  | [] => 0
  | d :: ds => szD d + 2 + szAll ds
end
theorem bt_log {n : Int} : Bt (n.natAbs.log2 + 1) n := by
  unfold Bt
  exact Nat.lt_log2_self
theorem listText_len (ts : List Str) : (listText ts).length ≤ piled ts + 2 := by
  unfold listText
  rw [strLen_append]
  have e1 : ((("]" : String) : Str)).length = 1 := rfl
  have e2 : ((("[" : String) : Str)).length = 1 := rfl
  cases ts with
  | nil =>
    have : (textFrom 0 (("[" : String) : Str) []).length = 1 := rfl
    rw [this, e1]; simp [piled]
  | cons t r =>
    have e : textFrom 0 (("[" : String) : Str) (t :: r) = textFrom 1 ((("[" : String) : Str) ++ ((if 0 > 0 then ", " else "" : String) : Str) ++ t) r := rfl
    rw [e, textFrom_length_pos _ _ _ (by decide), strLen_append, strLen_append, e1, e2, piled_cons]
    have : ((((if 0 > 0 then ", " else "" : String)) : Str)).length = 0 := rfl
    rw [this]; omega
theorem tupleText_len (ts : List Str) : (tupleText ts).length ≤ piled ts + 3 := by
  unfold tupleText
  rw [strLen_append, strLen_append]
  have e1 : ((("(" : String) : Str)).length = 1 := rfl
  have e3 : (((if ts.length == 1 then ",)" else ")" : String) : Str)).length ≤ 2 := by split <;> decide
  rw [e1]
  by_cases h : ts = []
  · subst h
    have : (Str.join ", " []).length = 0 := rfl
    rw [this]; omega
  · have := join_length_add ts h
    omega
theorem textFrom_ok : ∀ (ts : List Str) (k : Nat) (acc : Str), sOk acc → (∀ t ∈ ts, sOk t) → sOk (textFrom k acc ts)
  | [], _, _, h, _ => h
  | t :: ts, k, acc, h, h2 => textFrom_ok ts (k + 1) _ (sOk_app (sOk_app h (sOk_of _)) (h2 t List.mem_cons_self)) fun u hu => h2 u (List.mem_cons_of_mem _ hu)
theorem listText_ok {ts : List Str} (h : ∀ t ∈ ts, sOk t) : sOk (listText ts) := sOk_app (textFrom_ok ts 0 _ (sOk_of _) h) (sOk_of _)
theorem join_ok {sep : Str} (hs : sOk sep) : ∀ {ts : List Str}, (∀ t ∈ ts, sOk t) → sOk (Str.join sep ts)
  | [], _ => sOk_empty
  | [t], h => h t List.mem_cons_self
  | t :: u :: ts, h => sOk_app (sOk_app (h t List.mem_cons_self) hs) (join_ok hs fun v hv => h v (List.mem_cons_of_mem _ hv))
theorem tupleText_ok {ts : List Str} (h : ∀ t ∈ ts, sOk t) : sOk (tupleText ts) := sOk_app (sOk_app (sOk_of _) (join_ok (sOk_of _) h)) (sOk_of _)
mutual
theorem rp_ok : ∀ d : D, okT d = true → ∃ t, (∀ p, rpD d_Rt_repr p d = some t) ∧ t.length ≤ szD d ∧ sOk t
  | .non, _ => ⟨_, fun _ => rfl, by decide, sOk_of _⟩
  | .bl b, _ => ⟨_, fun _ => rfl, by cases b <;> decide, by cases b <;> exact sOk_of _⟩
  | .int i, h => by
    have hb : i.natAbs < 2 ^ 190 := by simpa [okT] using h
    refine ⟨Str.ofString (toString i), fun p => ?_, int_len (by omega) bt_log, sOk_of _⟩
    have h1 : i.natAbs.log2 < 190 := (show Bt 190 i from hb).log (by decide)
    show (if i.natAbs.log2 < 1920 then _ else _) = _
    rw [if_pos (by omega)]
  | .rat t b, h => by
    simp only [okT, Bool.and_eq_true, decide_eq_true_iff] at h
    obtain ⟨h1, h2⟩ := h
    have l1 : t.natAbs.log2 < 190 := (show Bt 190 t from h1).log (by decide)
    have l2 : b.natAbs.log2 < 190 := (show Bt 190 b from h2).log (by decide)
    obtain ⟨x, e, l, ox⟩ := q_Rrepr (t := t) (b := b) (k := max t.natAbs.log2 b.natAbs.log2 + 1) (by omega) (by omega) (bt_log.mono (by omega)) (bt_log.mono (by omega))
    refine ⟨x, fun p => ?_, by show _ ≤ 2 * max t.natAbs.log2 b.natAbs.log2 + 22; omega, ox⟩
    unfold rpD
    rw [e p]
    exact if_pos rfl
  | .lst l, h => by
    obtain ⟨ts, e, hl, ho⟩ := rp_all l (by simpa [okT] using h)
    refine ⟨listText ts, fun p => by show (rpAll d_Rt_repr p l).map listText = _; rw [e p]; rfl, ?_, listText_ok ho⟩
    have := listText_len ts
    show _ ≤ szAll l + 2
    omega
  | .tup l, h => by
    obtain ⟨ts, e, hl, ho⟩ := rp_all l (by simpa [okT] using h)
    refine ⟨tupleText ts, fun p => by show (rpAll d_Rt_repr p l).map tupleText = _; rw [e p]; rfl, ?_, tupleText_ok ho⟩
    have := tupleText_len ts
    show _ ≤ szAll l + 3
    omega
  | .str _, h => by simp [okT] at h
  | .ty _, h => by simp [okT] at h
  | .pot, h => by simp [okT] at h
  | .obj _, h => by simp [okT] at h
  | .edict, h => by simp [okT] at h
theorem rp_all : ∀ l : List D, okAll l = true → ∃ ts, (∀ p, rpAll d_Rt_repr p l = some ts) ∧ piled ts ≤ szAll l ∧ ∀ t ∈ ts, sOk t
  | [], _ => ⟨[], fun _ => rfl, Nat.le_refl _, fun _ h => absurd h (by simp)⟩
  | d :: ds, h => by
    simp only [okAll, Bool.and_eq_true] at h
    obtain ⟨t, e1, h1, o1⟩ := rp_ok d h.1
    obtain ⟨ts, e2, h2, o2⟩ := rp_all ds h.2
    refine ⟨t :: ts, fun p => ?_, by rw [piled_cons]; show _ ≤ szD d + 2 + szAll ds; omega, fun u hu => by
      rcases List.mem_cons.mp hu with rfl | hu
      · exact o1
      · exact o2 u hu⟩
    show (rpD d_Rt_repr p d).bind _ = _
    rw [e1 p]
    simp only [Option.bind_some]
    rw [e2 p]; rfl
end
noncomputable def tx (d : D) : Str := (rpD d_Rt_repr (0, 0) d).getD ""
theorem tx_ok {d : D} (h : okT d = true) : (∀ p, rpD d_Rt_repr p d = some (tx d)) ∧ (tx d).length ≤ szD d ∧ sOk (tx d) := by
  obtain ⟨t, e, l, o⟩ := rp_ok d h
  have : tx d = t := by unfold tx; rw [e]; rfl
  rw [this]; exact ⟨e, l, o⟩
theorem x_repr {ρ : DEnv} {p p1 : Pot} {f : EF} {d : D} (h : f ρ p = some (d, p1)) (h1 : isSeq d = true) (h2 : dpD d ≤ 8) (h3 : okT d = true) (h4 : szD d ≤ 65536) : dRepr d_Rt_repr f ρ p = some (.str (tx d), p1) := by
  obtain ⟨e, l, _⟩ := tx_ok h3
  unfold dRepr
  rw [h]
  simp only [Option.bind_some]
  rw [if_pos ⟨h1, h2⟩, e p1]
  simp only [Option.bind_some]
  rw [if_pos (by omega)]
/-! sizes of lists of things of one kind -/
theorem okAll_map {α : Type} {f : α → D} : ∀ {l : List α}, (∀ x ∈ l, okT (f x) = true) → okAll (l.map f) = true
  | [], _ => rfl
  | x :: l, h => by
    show (okT (f x) && okAll (l.map f)) = true
    rw [h x List.mem_cons_self, okAll_map fun y hy => h y (List.mem_cons_of_mem _ hy)]; rfl
theorem szAll_map {α : Type} {f : α → D} {n : Nat} : ∀ {l : List α}, (∀ x ∈ l, szD (f x) ≤ n) → szAll (l.map f) ≤ l.length * (n + 2)
  | [], _ => by simp [szAll]
  | x :: l, h => by
    have h1 := h x List.mem_cons_self
    have h2 := szAll_map (l := l) fun y hy => h y (List.mem_cons_of_mem _ hy)
    show szD (f x) + 2 + szAll (l.map f) ≤ (l.length + 1) * (n + 2)
    rw [Nat.succ_mul]; omega
theorem okI {r : List Int} {k : Nat} (hk : k ≤ 190) (h : ∀ x ∈ r, Bt k x) : okT (eI r) = true := by
  show okAll (r.map D.int) = true
  refine okAll_map fun x hx => ?_
  exact decide_eq_true ((h x hx).mono hk)
theorem szI {r : List Int} {k n : Nat} (hk : 0 < k) (h : ∀ x ∈ r, Bt k x) (hn : r.length ≤ n) : szD (eI r) ≤ n * (k + 3) + 2 := by
  have : szAll (r.map D.int) ≤ r.length * (k + 3) := szAll_map (n := k + 1) fun x hx => by
    have := (h x hx).log hk
    show x.natAbs.log2 + 2 ≤ _
    omega
  have h2 : r.length * (k + 3) ≤ n * (k + 3) := Nat.mul_le_mul_right _ hn
  show szAll (r.map D.int) + 2 ≤ _
  omega
end
end K36
/-! JL: any value, as data: what judges look at. -/
namespace DL
open PySem PySem.Spec PyProof.Rows L2 RK
def isVal : D → Bool
  | .pot | .ty _ | .obj _ => false
  | _ => true
def isIntD : D → Bool
  | .int _ => true
  | _ => false
def isNumD : D → Bool
  | .int _ | .rat _ _ => true
  | _ => false
/-- a number's fraction -/
def nq : D → Int × Int
  | .int i => (i, 1)
  | .rat t b => (t, b)
  | _ => (0, 1)
def seqD (d : D) : List D := (seqOf d).getD []
def isSeqD : D → Bool
  | .lst _ | .tup _ => true
  | _ => false
theorem seqOf_some {d : D} (h : isSeqD d = true) : seqOf d = some (seqD d) := by
  cases d <;> first | rfl | cases h
theorem seqOf_none {d : D} (h : isSeqD d = false) : seqOf d = none := by
  cases d <;> first | rfl | cases h
theorem x_lSeq {ρ : DEnv} {p p1 : Pot} {f : EF} {d : D} (h : f ρ p = some (d, p1)) (hs : isSeqD d = true) : lSeq f ρ p = some (seqD d, p1) := by
  unfold lSeq
  rw [h]
  cases d <;> first | rfl | cases hs
theorem g_lenS {d : D} (hs : isSeqD d = true) : gLen [d] = some (.int ((seqD d).length : Nat)) := by
  cases d <;> first | rfl | cases hs
theorem g_ixS {d : D} {i : Int} (hs : isSeqD d = true) : gIx d (.int i) = atI (seqD d) i := by
  cases d <;> first | rfl | cases hs
theorem x_lList {ρ : DEnv} {p p1 : Pot} {f : EF} {d : D} (h : f ρ p = some (d, p1)) (hs : isSeqD d = true) : lList f ρ p = some (seqD d, p1) := by
  unfold lList
  rw [h]
  cases d <;> first | rfl | cases hs
/-! a value of some size -/
structure Fq (k : Nat) (t b : Int) : Prop where
  pos : 0 < b
  cop : Nat.gcd t.natAbs b.natAbs = 1
  top : Bt k t
  bot : Bt (min 15 (k - 6)) b
mutual
def Vd (k : Nat) : D → Prop
  | .int i => Bt k i
  | .rat t b => Fq k t b
  | .lst l => l.length ≤ min 1000 (10 * k) ∧ VdA k l
  | .tup l => l.length ≤ min 1000 (10 * k) ∧ VdA k l
  | .str x => x.length ≤ 10
  | .pot | .ty _ | .obj _ => False
  | _ => True
def VdA (k : Nat) : List D → Prop
  | [] => True
  | d :: ds => Vd k d ∧ VdA k ds
end
theorem vdA {k : Nat} : ∀ {l : List D}, VdA k l ↔ ∀ x ∈ l, Vd k x
  | [] => by simp [VdA]
  | d :: ds => by
    unfold VdA
    rw [vdA (l := ds)]
    simp
theorem Fq.mono {k m : Nat} {t b : Int} (h : Fq k t b) (hk : k ≤ m) : Fq m t b := ⟨h.pos, h.cop, h.top.mono hk, h.bot.mono (by omega)⟩
mutual
theorem Vd.mono {k m : Nat} (hk : k ≤ m) : ∀ d : D, Vd k d → Vd m d
  | .int i, h => Bt.mono h hk
  | .rat t b, h => Fq.mono h hk
  | .lst l, h => ⟨by have := h.1; omega, VdA.mono hk l h.2⟩
  | .tup l, h => ⟨by have := h.1; omega, VdA.mono hk l h.2⟩
  | .str x, h => h
  | .non, h => h
  | .bl _, h => h
  | .edict, h => h
theorem VdA.mono {k m : Nat} (hk : k ≤ m) : ∀ l : List D, VdA k l → VdA m l
  | [], _ => trivial
  | d :: ds, h => ⟨Vd.mono hk d h.1, VdA.mono hk ds h.2⟩
end
theorem Vd.val {k : Nat} {d : D} (h : Vd k d) : isVal d = true := by
  cases d <;> first | rfl | exact absurd h (by unfold Vd; exact id)
theorem Vd.seq {k : Nat} {d : D} (h : Vd k d) : (seqD d).length ≤ 1000 ∧ ∀ x ∈ seqD d, Vd k x := by
  cases d <;> first
    | exact ⟨Nat.zero_le _, fun x hx => absurd hx (by simp [seqD, seqOf])⟩
    | (unfold Vd at h; exact ⟨Nat.le_trans h.1 (Nat.min_le_left _ _), vdA.mp h.2⟩)
theorem Vd.len {k : Nat} {d : D} (h : Vd k d) : (seqD d).length ≤ 10 * k := by
  cases d <;> first
    | exact Nat.zero_le _
    | (unfold Vd at h; exact Nat.le_trans h.1 (Nat.min_le_right _ _))
theorem Vd.num {k : Nat} {d : D} (h : Vd k d) (hn : isNumD d = true) : 0 < (nq d).2 ∧ Bt k (nq d).1 ∧ Bt 15 (nq d).2 ∧ Nat.gcd (nq d).1.natAbs (nq d).2.natAbs = 1 := by
  cases d with
  | int i => unfold Vd at h; exact ⟨by show (0 : Int) < 1; decide, h, Bt.one (by decide), by show Nat.gcd _ 1 = 1; simp⟩
  | rat t b => unfold Vd at h; exact ⟨h.pos, h.top, h.bot.mono (by omega), h.cop⟩
  | _ => cases hn
theorem vd_lst {k : Nat} {l : List D} (h1 : l.length ≤ min 1000 (10 * k)) (h2 : ∀ x ∈ l, Vd k x) : Vd k (.lst l) := by unfold Vd; exact ⟨h1, vdA.mpr h2⟩
theorem vd_tup {k : Nat} {l : List D} (h1 : l.length ≤ min 1000 (10 * k)) (h2 : ∀ x ∈ l, Vd k x) : Vd k (.tup l) := by unfold Vd; exact ⟨h1, vdA.mpr h2⟩
/-! all, any over what is walked -/
section
variable {ρ : DEnv} {p p1 : Pot} {xs : List D} {g : D → Bool}
theorem blsOf_mapD {α : Type} (l : List α) (g : α → Bool) : blsOf (l.map fun x => D.bl (g x)) = some (l.map g) := by
  have := blsOf_map (l.map g)
  rw [List.map_map] at this
  exact this
theorem g_allD {α : Type} (l : List α) (g : α → Bool) : gAll [.lst (l.map fun x => D.bl (g x))] = some (.bl (l.all g)) := by
  unfold gAll
  dsimp only
  rw [blsOf_mapD]
  simp
theorem g_anyD {α : Type} (l : List α) (g : α → Bool) : gAny [.lst (l.map fun x => D.bl (g x))] = some (.bl (l.any g)) := by
  unfold gAny
  dsimp only
  rw [blsOf_mapD]
  simp
theorem x_all {vs : List Nat} {l : LF} {tg : TgF} {f : EF} (hn : noOw ρ vs = true) (h : l ρ p = some (xs, p1)) (hl : xs.length ≤ 65536) (hf : ∀ x ∈ xs, ∃ ρ', tg (wipeD ρ vs) x = some ρ' ∧ f ρ' p1 = some (.bl (g x), p1)) :
    dApp gAll (dCons (eL (lComp vs l tg bTrue f)) dNil) ρ p = some (.bl (xs.all g), p1) := by
  have c : dCompL tg bTrue f xs (wipeD ρ vs) p1 = some (xs.map fun x => D.bl (g x), p1) := by
    have := compM (t := tg) (f := f) (ρ := wipeD ρ vs) (p := p1) (fun x : D => x) (fun x => D.bl (g x)) (xs := xs) hf
    rw [show xs.map (fun x : D => x) = xs from List.map_id _] at this
    exact this
  exact x_app (x_cons (x_eL (x_comp hn h c (by rw [List.length_map]; exact hl))) rfl) (g_allD _ _)
theorem x_any {vs : List Nat} {l : LF} {tg : TgF} {f : EF} (hn : noOw ρ vs = true) (h : l ρ p = some (xs, p1)) (hl : xs.length ≤ 65536) (hf : ∀ x ∈ xs, ∃ ρ', tg (wipeD ρ vs) x = some ρ' ∧ f ρ' p1 = some (.bl (g x), p1)) :
    dApp gAny (dCons (eL (lComp vs l tg bTrue f)) dNil) ρ p = some (.bl (xs.any g), p1) := by
  have c : dCompL tg bTrue f xs (wipeD ρ vs) p1 = some (xs.map fun x => D.bl (g x), p1) := by
    have := compM (t := tg) (f := f) (ρ := wipeD ρ vs) (p := p1) (fun x : D => x) (fun x => D.bl (g x)) (xs := xs) hf
    rw [show xs.map (fun x : D => x) = xs from List.map_id _] at this
    exact this
  exact x_app (x_cons (x_eL (x_comp hn h c (by rw [List.length_map]; exact hl))) rfl) (g_anyD _ _)
theorem x_chk {f : EF} {n : Int} {lo hi : Int} (h : f ρ p = some (.int n, p)) : dChain gLe gLe (dK (.int lo)) f (dK (.int hi)) ρ p = some (.bl (decide (lo ≤ n ∧ n ≤ hi)), p) := by
  simp only [ev_chain, ev_K, Option.bind_some, h, g_rel]
  by_cases h1 : lo ≤ n
  · simp [h1]
  · simp [h1]
end
/-! which numbers, which rows -/
def areNums (d : D) (n : Int) : Bool := isSeqD d && (decide (((seqD d).length : Int) = n) && (seqD d).all isNumD)
def nzD (d : D) : Bool := decide ((nq d).1 ≠ 0)
def lenD (d : D) : Int := ((seqD d).length : Nat)
def areRowsD (d : D) : Bool := match seqD d with
  | [] => false
  | r0 :: rs => decide ((r0 :: rs).length ≤ 8) && (isSeqD r0 && (decide (1 ≤ lenD r0 ∧ lenD r0 ≤ 4) && (r0 :: rs).all fun r => areNums r (lenD r0)))
def areListsD (d : D) : Bool := isSeqD d && (areRowsD d && (seqD d).any fun r => (seqD r).any nzD)
def areListsL (d : D) : Bool := isSeqD d && (decide (1 ≤ lenD d ∧ lenD d ≤ 8) && ((seqD d).all (fun r => isSeqD r && decide (1 ≤ lenD r ∧ lenD r ≤ 4)) && (decide (sizeSet ((seqD d).map lenD) = 1) && ((seqD d).all (fun r => (seqD r).all isNumD) && (seqD d).any fun r => (seqD r).any nzD))))
theorem sizeSet_one {x : Int} {l : List Int} : sizeSet (x :: l) = 1 ↔ ∀ y ∈ l, y = x := by
  unfold sizeSet
  constructor
  · intro h y hy
    have h1 : x ∈ sortU (x :: l) := sortU_mem.mpr List.mem_cons_self
    have h2 : y ∈ sortU (x :: l) := sortU_mem.mpr (List.mem_cons_of_mem _ hy)
    match hs : sortU (x :: l), h with
    | [z], _ =>
      rw [hs] at h1 h2
      rw [List.mem_singleton] at h1 h2
      rw [h1, h2]
  · intro h
    have : sortU (x :: l) = [x] := asc_uniq (sortU_asc _) (List.pairwise_singleton _ _) fun z => by
      rw [sortU_mem, List.mem_singleton, List.mem_cons]
      exact ⟨fun e => e.elim id (h z), .inl⟩
    rw [this]; rfl
theorem lists_same (d : D) : areListsL d = areListsD d := by
  unfold areListsL areListsD
  by_cases hs : isSeqD d = true
  · rw [hs, Bool.true_and, Bool.true_and]
    unfold areRowsD
    cases hd : seqD d with
    | nil =>
      have : lenD d = 0 := by unfold lenD; rw [hd]; rfl
      rw [this]; rfl
    | cons r0 rs =>
      have hl : lenD d = ((r0 :: rs).length : Nat) := by unfold lenD; rw [hd]
      rw [Bool.eq_iff_iff]
      simp only [Bool.and_eq_true, decide_eq_true_eq, List.all_eq_true, hl, List.map_cons, sizeSet_one]
      constructor
      · rintro ⟨⟨h1, h2⟩, h3, h4, h5, h6⟩
        refine ⟨⟨by omega, (h3 r0 List.mem_cons_self).1, (h3 r0 List.mem_cons_self).2, fun r hr => ?_⟩, h6⟩
        unfold areNums
        simp only [Bool.and_eq_true, decide_eq_true_eq, List.all_eq_true]
        refine ⟨(h3 r hr).1, ?_, h5 r hr⟩
        rcases List.mem_cons.mp hr with rfl | hr
        · rfl
        · exact h4 _ (List.mem_map_of_mem hr)
      · rintro ⟨⟨h1, h2, h3, h4⟩, h6⟩
        have h5 : ∀ r ∈ r0 :: rs, isSeqD r = true ∧ lenD r = lenD r0 ∧ ∀ x ∈ seqD r, isNumD x = true := fun r hr => by
          have := h4 r hr
          unfold areNums at this
          simp only [Bool.and_eq_true, decide_eq_true_eq, List.all_eq_true] at this
          exact this
        refine ⟨⟨by simp; omega, by omega⟩, fun r hr => ⟨(h5 r hr).1, ?_⟩, ?_, fun r hr => (h5 r hr).2.2, h6⟩
        · rw [(h5 r hr).2.1]; exact h3
        · intro y hy
          obtain ⟨r, hr, rfl⟩ := List.mem_map.mp hy
          exact (h5 r (List.mem_cons_of_mem _ hr)).2.1
  · have : isSeqD d = false := by simpa using hs
    rw [this]; rfl
/-! rows put on one bottom -/
def lcmAll (l : List (Int × Int)) : Int := l.foldl (fun c x => ((Nat.lcm c.natAbs x.2.natAbs : Nat) : Int)) 1
def clearQ (l : List (Int × Int)) : List Int := l.map fun x => x.1 * (lcmAll l).fdiv x.2
theorem lcm_go {k : Nat} : ∀ (l : List (Int × Int)) (j : Nat) (c : Int), (∀ x ∈ l, 0 < x.2 ∧ Bt k x.2) → 0 < c → c.natAbs < 2 ^ (k * j + 1) → 0 < l.foldl (fun c x => ((Nat.lcm c.natAbs x.2.natAbs : Nat) : Int)) c ∧
    (l.foldl (fun c x => ((Nat.lcm c.natAbs x.2.natAbs : Nat) : Int)) c).natAbs < 2 ^ (k * (j + l.length) + 1) ∧ c ∣ l.foldl (fun c x => ((Nat.lcm c.natAbs x.2.natAbs : Nat) : Int)) c ∧ ∀ x ∈ l, x.2 ∣ l.foldl (fun c x => ((Nat.lcm c.natAbs x.2.natAbs : Nat) : Int)) c
  | [], j, c, _, h0, hc => ⟨h0, by simpa using hc, Int.dvd_refl c, fun x hx => absurd hx (by simp)⟩
  | y :: l, j, c, h, h0, hc => by
    obtain ⟨hy0, hyb⟩ := h y List.mem_cons_self
    have hl0 : 0 < Nat.lcm c.natAbs y.2.natAbs := Nat.lcm_pos (by omega) (by omega)
    have hlb : Nat.lcm c.natAbs y.2.natAbs < 2 ^ (k * (j + 1) + 1) := by
      have h1 : Nat.lcm c.natAbs y.2.natAbs ≤ c.natAbs * y.2.natAbs := Nat.lcm_le_mul (by omega) (by omega)
      have h2 : c.natAbs * y.2.natAbs < 2 ^ (k * j + 1) * 2 ^ k := Nat.mul_lt_mul'' hc hyb
      rw [← Nat.pow_add, show k * j + 1 + k = k * (j + 1) + 1 by rw [Nat.mul_succ]; omega] at h2
      omega
    obtain ⟨i1, i2, i3, i4⟩ := lcm_go l (j + 1) ((Nat.lcm c.natAbs y.2.natAbs : Nat) : Int) (fun x hx => h x (List.mem_cons_of_mem _ hx)) (by omega) (by rw [Int.natAbs_natCast]; exact hlb)
    rw [List.foldl_cons]
    refine ⟨i1, by rw [List.length_cons, show j + (l.length + 1) = j + 1 + l.length by omega]; exact i2, ?_, fun x hx => ?_⟩
    · exact Int.dvd_trans (Int.natAbs_dvd_natAbs.mp (by rw [Int.natAbs_natCast]; exact Nat.dvd_lcm_left _ _)) i3
    · rcases List.mem_cons.mp hx with rfl | hx
      · exact Int.dvd_trans (Int.natAbs_dvd_natAbs.mp (by rw [Int.natAbs_natCast]; exact Nat.dvd_lcm_right _ _)) i3
      · exact i4 x hx
theorem lcm_ok {k : Nat} {l : List (Int × Int)} (h : ∀ x ∈ l, 0 < x.2 ∧ Bt k x.2) : 0 < lcmAll l ∧ (lcmAll l).natAbs < 2 ^ (k * l.length + 1) ∧ ∀ x ∈ l, x.2 ∣ lcmAll l := by
  have := lcm_go l 0 1 h (by decide) (by rw [Nat.mul_zero]; decide)
  rw [Nat.zero_add] at this
  exact ⟨this.1, this.2.1, this.2.2.2⟩
theorem clear_nz {k : Nat} {l : List (Int × Int)} (h : ∀ x ∈ l, 0 < x.2 ∧ Bt k x.2) {x : Int × Int} (hx : x ∈ l) : x.1 * (lcmAll l).fdiv x.2 ≠ 0 ↔ x.1 ≠ 0 := by
  obtain ⟨h1, _, h3⟩ := lcm_ok h
  have h4 := Int.fdiv_mul_cancel (h3 x hx)
  have h5 : (lcmAll l).fdiv x.2 ≠ 0 := fun z => by rw [z] at h4; omega
  constructor
  · rintro h6 h7
    exact h6 (by rw [h7, Int.zero_mul])
  · intro h6 h7
    exact (Int.mul_eq_zero.mp h7).elim h6 h5
end DL
namespace K36
open PySem PySem.Spec PyProof.Rows L2 DL RK
variable {p : Pot}
/-! ### judges, any value -/
theorem j_is_integer {d : D} (h : isVal d = true) : d_is_integer [d] p = some (.bl (isIntD d), p) := by cases d <;> first | rfl | cases h
theorem j_is_list {d : D} (h : isVal d = true) : d_is_list [d] p = some (.bl (isSeqD d), p) := by cases d <;> first | rfl | cases h
theorem j_is_number {d : D} (h : isVal d = true) : d_is_number [d] p = some (.bl (isNumD d), p) := by cases d <;> first | rfl | cases h
theorem j_law_is_number {d : D} (h : isVal d = true) : d__law_is_number [d] p = some (.bl (isNumD d), p) := by cases d <;> first | rfl | cases h
theorem j_isTT {d : D} (h : isVal d = true) {ρ : DEnv} {f : EF} (hf : f ρ p = some (d, p)) : dApp (gIsTT .list .tuple) (dCons f (dCons (dK (.ty "list")) dNil |> fun _ => dCons (dTup (dCons (dK (.ty "list")) (dCons (dK (.ty "tuple")) dNil))) dNil)) ρ p = some (.bl (isSeqD d), p) := by
  refine x_app (x_cons hf rfl) ?_
  cases d <;> first | rfl | cases h
theorem j_law_of {d : D} (h : isNumD d = true) : d__law_of [d] p = some (eQ (nq d), p) := by cases d <;> first | rfl | cases h
theorem j_are_numbers {d : D} {n : Int} {k : Nat} (h : Vd k d) : d_are_numbers [d, .int n] p = some (.bl (areNums d n), p) := by
  refine x_def rfl (x_ret (x_and (x_call rfl (j_is_list h.val)) ?_))
  unfold areNums
  by_cases hs : isSeqD d = true
  · rw [if_pos hs, hs, Bool.true_and]
    refine x_and (x_bin (x_app rfl (g_lenS hs)) rfl g_eq) ?_
    by_cases hl : ((seqD d).length : Int) = n
    · rw [decide_eq_true hl, if_pos rfl, Bool.true_and]
      exact x_all rfl (x_lSeq rfl hs) (by have := h.seq.1; omega) fun x hx => ⟨_, rfl, x_call rfl (j_is_number (h.seq.2 x hx).val)⟩
    · rw [decide_eq_false hl, if_neg Bool.false_ne_true, Bool.false_and]
  · have : isSeqD d = false := by simpa using hs
    rw [if_neg hs, this, Bool.false_and]
theorem j_ratio_of {d : D} (h : isNumD d = true) : d_ratio_of [d] p = some (eA (nq d), p) := by
  cases d with
  | int i =>
    refine x_def rfl (x_ret (x_ifF (p1 := p) rfl (x_call rfl ?_)))
    have := mkRat_low (p := p) (t := i) (b := 1) (by decide) (by decide)
    rw [low_one] at this
    exact this
  | rat t b => rfl
  | _ => cases h
theorem j_ratios_of {d : D} (hs : isSeqD d = true) (hl : (seqD d).length ≤ 65536) (h : ∀ x ∈ seqD d, isNumD x = true) : d_ratios_of [d] p = some (eAs ((seqD d).map nq), p) := by
  have h3 : lSeq (dVarF 0) [.ro d, .no] p = some (seqD d, p) := x_lSeq rfl hs
  rw [show eAs ((seqD d).map nq) = D.lst ((seqD d).map fun x => eA (nq x)) from by unfold eAs; rw [List.map_map]; rfl]
  refine x_def rfl (x_ret (x_eL (x_comp (p2 := p) (es := (seqD d).map fun x => eA (nq x)) rfl h3 ?_ (by rw [List.length_map]; exact hl))))
  · have := compM (t := tgName .fr 1) (f := dRatF (dCall d_ratio_of (dCons (dVarF 1) (dNil)))) (ρ := [.ro d, .no]) (p := p) (fun x : D => x) (fun x => eA (nq x)) (xs := seqD d) fun x hx => ⟨_, rfl, x_ratF (x_call rfl (j_ratio_of (h x hx))) (.inl rfl)⟩
    rw [show (seqD d).map (fun x : D => x) = seqD d from List.map_id _] at this
    exact this
theorem j_wholes {l : List (Int × Int)} {k : Nat} (hk : 0 < k) (hk2 : k ≤ 60) (hl : l.length ≤ 4) (h : ∀ x ∈ l, 0 < x.2 ∧ Bt k x.1 ∧ Bt 15 x.2) : d_wholes [eAs l] p = some (.tup [.int (lcmAll l), eI (clearQ l)], p) := by
  have hb : ∀ x ∈ l, 0 < x.2 ∧ Bt 15 x.2 := fun x hx => ⟨(h x hx).1, (h x hx).2.2⟩
  obtain ⟨c1, c2, c3⟩ := lcm_ok hb
  obtain ⟨j, hj, _⟩ := forLi (t := tgName .al 2) (g := dAsg (dApp gLcm (dCons (dVar 1) (dCons (dFld .own_bottom (dVar 2)) (dNil)))) (tgName .al 1)) (p := p) (enc := eA) (R := fun (s : Int) (j : Option D) => [.sh (eAs l), .sh (.int s), jS j])
    (step := fun c x => ((Nat.lcm c.natAbs x.2.natAbs : Nat) : Int)) (I := fun i c => 0 < c ∧ c.natAbs < 2 ^ (15 * i + 1)) (xs := l) (k := 0) (s := 1) (j := none) ⟨by decide, by decide⟩ fun i x hx s j ⟨s0, s1⟩ => by
      have hm := List.mem_of_getElem? hx
      have hi : i < l.length := (List.getElem?_eq_some_iff.mp hx).1
      obtain ⟨y0, yb⟩ := hb x hm
      rw [Nat.zero_add] at s1 ⊢
      have e1 : s.natAbs < 2 ^ 64 := Nat.lt_of_lt_of_le s1 (Nat.pow_le_pow_right (by decide) (by omega))
      have e2 : x.2.natAbs < 2 ^ 64 := Nat.lt_of_lt_of_le yb (Nat.pow_le_pow_right (by decide) (by omega))
      refine ⟨⟨?_, ?_⟩, _, some (eA x), rfl, (x_asgN (x_app (x_cons rfl (x_cons rfl rfl)) ?_)).trans rfl⟩
      · have : 0 < Nat.lcm s.natAbs x.2.natAbs := Nat.lcm_pos (by omega) (by omega)
        omega
      · rw [Int.natAbs_natCast]
        have h1 : Nat.lcm s.natAbs x.2.natAbs ≤ s.natAbs * x.2.natAbs := Nat.lcm_le_mul (by omega) (by omega)
        have h2 : s.natAbs * x.2.natAbs < 2 ^ (15 * i + 1) * 2 ^ 15 := Nat.mul_lt_mul'' s1 yb
        rw [← Nat.pow_add, show 15 * i + 1 + 15 = 15 * (i + 1) + 1 by omega] at h2
        omega
      · show (if s.natAbs < 2 ^ 64 ∧ x.2.natAbs < 2 ^ 64 then _ else _) = _
        rw [if_pos ⟨e1, e2⟩]
  have e3 : lOf (dVar 0) [.sh (eAs l), .sh (.int (lcmAll l)), jS j] p = some (l.map eA, p) := rfl
  rw [show eI (clearQ l) = D.lst (l.map fun x => D.int (x.1 * (lcmAll l).fdiv x.2)) from by unfold clearQ eI; rw [List.map_map]; rfl]
  refine x_def rfl (x_seq (x_asgN rfl) (x_seq (x_for (x_lOf rfl) hj) (x_ret (x_tup (x_cons rfl (x_cons (x_eL (x_comp (es := l.map fun x => D.int (x.1 * (lcmAll l).fdiv x.2)) (by cases j <;> rfl) e3 (compM eA (fun x => D.int (x.1 * (lcmAll l).fdiv x.2)) fun x hx => ⟨_, rfl, ?_⟩) (by rw [List.length_map]; omega))) rfl)) (by simp)))))
  obtain ⟨y0, yt, yb⟩ := h x hx
  have hq : Bt (15 * l.length + 1) ((lcmAll l).fdiv x.2) := fdiv_bt c2 (c3 x hx) y0
  exact x_bin rfl (x_bin rfl rfl (g_fdiv ⟨by omega, by have := yb.log (by decide); omega⟩)) (mul_ok yt hq hk (by omega) (by omega))
theorem clear_bt {l : List (Int × Int)} {k : Nat} (hk2 : k ≤ 60) (hl : l.length ≤ 4) (h : ∀ x ∈ l, 0 < x.2 ∧ Bt k x.1 ∧ Bt 15 x.2) : ∀ y ∈ clearQ l, Bt 121 y := by
  intro y hy
  obtain ⟨x, hx, rfl⟩ := List.mem_map.mp hy
  obtain ⟨y0, yt, yb⟩ := h x hx
  obtain ⟨c1, c2, c3⟩ := lcm_ok (k := 15) fun x hx => ⟨(h x hx).1, (h x hx).2.2⟩
  have hq : Bt (15 * l.length + 1) ((lcmAll l).fdiv x.2) := fdiv_bt c2 (c3 x hx) y0
  exact (yt.mul hq).mono (by omega)
def clrD (r : D) : List Int := clearQ ((seqD r).map nq)
theorem num_of {r : D} {k : Nat} (h : Vd k r) (hn : ∀ x ∈ seqD r, isNumD x = true) : ∀ x ∈ (seqD r).map nq, 0 < x.2 ∧ Bt k x.1 ∧ Bt 15 x.2 := by
  intro x hx
  obtain ⟨y, hy, rfl⟩ := List.mem_map.mp hx
  obtain ⟨a, b, c, _⟩ := (h.seq.2 y hy).num (hn y hy)
  exact ⟨a, b, c⟩
theorem j_ints_of {d : D} {k : Nat} (hk : 0 < k) (hk2 : k ≤ 60) (hv : Vd k d) (hs : isSeqD d = true) (h : ∀ r ∈ seqD d, isSeqD r = true ∧ (seqD r).length ≤ 4 ∧ ∀ x ∈ seqD r, isNumD x = true) : d_ints_of [d] p = some (eR ((seqD d).map clrD), p) := by
  have h3 : lSeq (dVarF 0) [.ro d, .no] p = some (seqD d, p) := x_lSeq rfl hs
  rw [show eR ((seqD d).map clrD) = D.lst ((seqD d).map fun r => eI (clrD r)) from by unfold eR; rw [List.map_map]; rfl]
  refine x_def rfl (x_ret (x_eL (x_comp (p2 := p) (es := (seqD d).map fun r => eI (clrD r)) rfl h3 ?_ (by rw [List.length_map]; have := hv.seq.1; omega))))
  have := compM (t := tgName .fr 1) (f := dBin gIx (dCall d_wholes (dCons (dCall d_ratios_of (dCons (dVarF 1) (dNil))) (dNil))) (dK (.int 1))) (ρ := [.ro d, .no]) (p := p) (fun x : D => x) (fun r => eI (clrD r)) (xs := seqD d) fun r hr => ⟨_, rfl, by
    obtain ⟨h1, h2, h4⟩ := h r hr
    exact x_bin (x_call (x_cons (x_call rfl (j_ratios_of (d := r) h1 (by omega) h4)) rfl) (j_wholes hk hk2 (by rw [List.length_map]; exact h2) (num_of (hv.seq.2 r hr) h4))) rfl rfl⟩
  rw [show (seqD d).map (fun x : D => x) = seqD d from List.map_id _] at this
  exact this
theorem rank_nz {rows : List (List Int)} {w : Nat} (hw : ∀ r ∈ rows, r.length = w) : 0 < intRank rows ↔ ∃ r ∈ rows, ∃ x ∈ r, x ≠ 0 := by
  constructor
  · intro h
    apply Classical.byContradiction
    intro hn
    have : intRank rows = 0 := by
      rw [intRank_eq hw]
      refine rk_zero fun v hv j => ?_
      obtain ⟨r, hr, rfl⟩ := List.mem_map.mp hv
      unfold vi
      have : r.getD j 0 = 0 := by
        rw [List.getD_eq_getElem?_getD]
        cases e : r[j]? with
        | none => rfl
        | some x =>
          apply Classical.byContradiction
          intro hx
          exact hn ⟨r, hr, x, List.mem_of_getElem? e, hx⟩
      rw [this]; rfl
    omega
  · rintro ⟨r, hr, x, hx, h0⟩
    obtain ⟨j, hj⟩ := List.getElem?_of_mem hx
    exact rank_pos hw hr (j := j) (by rw [List.getD_eq_getElem?_getD, hj]; exact h0)
/-- is any value lists -/
theorem j_are_lists {d : D} {k : Nat} (hk : 0 < k) (hk2 : k ≤ 60) (h : Vd k d) : d_are_lists [d] p = some (.bl (areListsD d), p) := by
  unfold areListsD
  by_cases hs : isSeqD d = true
  · rw [hs, Bool.true_and]
    have b1 : bNot (bOf (dCall d_is_list (dCons (dVar 0) (dNil)))) (startD n_are_lists false [d]) p = some (false, p) := x_bNot (b := true) (x_bOf (x_call rfl (by rw [j_is_list h.val, hs])))
    have len : dApp gLen (dCons (dVar 0) (dNil)) (startD n_are_lists false [d]) p = some (.int ((seqD d).length : Nat), p) := x_app rfl (g_lenS hs)
    have c1 := x_chk (lo := 1) (hi := 8) len
    unfold areRowsD
    cases hd : seqD d with
    | nil =>
      refine x_def rfl (x_seqR (x_iteT (p1 := p) (x_bOr b1 ?_) (x_ret rfl)))
      rw [if_neg Bool.false_ne_true]
      refine x_bOr (x_bNot (x_bOf c1)) ?_
      rw [hd]; rfl
    | cons r0 rs =>
      dsimp only
      have hr0 : Vd k r0 := h.seq.2 r0 (by rw [hd]; exact List.mem_cons_self)
      have a0 : gIx d (.int 0) = some r0 := by rw [g_ixS hs, at_0, hd]; rfl
      have i0 : dBin gIx (dVar 0) (dK (.int 0)) (startD n_are_lists false [d]) p = some (r0, p) := x_bin rfl rfl a0
      by_cases h8 : (r0 :: rs).length ≤ 8
      · rw [decide_eq_true h8, Bool.true_and]
        have d1 : decide ((1 : Int) ≤ ((seqD d).length : Nat) ∧ (((seqD d).length : Nat) : Int) ≤ 8) = true := decide_eq_true (by rw [hd]; simp at h8 ⊢; omega)
        rw [d1] at c1
        by_cases hs0 : isSeqD r0 = true
        · rw [hs0, Bool.true_and]
          have t1 : bOr (bNot (bOf (dCall d_is_list (dCons (dVar 0) (dNil))))) (bOr (bNot (bOf (dChain gLe gLe (dK (.int 1)) (dApp gLen (dCons (dVar 0) (dNil))) (dK (.int 8))))) (bNot (bOf (dCall d_is_list (dCons (dBin gIx (dVar 0) (dK (.int 0))) (dNil)))))) (startD n_are_lists false [d]) p = some (false, p) := by
            refine x_bOr b1 ?_
            rw [if_neg Bool.false_ne_true]
            refine x_bOr (x_bNot (x_bOf c1)) ?_
            rw [if_neg (by decide)]
            exact x_bNot (b := true) (x_bOf (x_call (x_cons i0 rfl) (by rw [j_is_list hr0.val, hs0])))
          have len0 : dApp gLen (dCons (dBin gIx (dVar 0) (dK (.int 0))) (dNil)) (startD n_are_lists false [d]) p = some (.int (lenD r0), p) := x_app (x_cons i0 rfl) (g_lenS hs0)
          have c2 := x_chk (ρ := [.sh d, .sh (.int (lenD r0)), .no]) (p := p) (f := dVar 1) (lo := 1) (hi := 4) (n := lenD r0) rfl
          by_cases hw : 1 ≤ lenD r0 ∧ lenD r0 ≤ 4
          · rw [decide_eq_true hw] at c2
            rw [decide_eq_true hw, Bool.true_and]
            have ha : dApp gAll (dCons (eL (lComp [2] (lSeq (dVar 0)) (tgName .al 2) (bTrue) (dCall d_are_numbers (dCons (dVar 2) (dCons (dVar 1) (dNil)))))) (dNil)) [.sh d, .sh (.int (lenD r0)), .no] p = some (.bl ((seqD d).all fun r => areNums r (lenD r0)), p) :=
              x_all rfl (x_lSeq rfl hs) (by have := h.seq.1; omega) fun x hx => ⟨_, rfl, x_call rfl (j_are_numbers (h.seq.2 x hx))⟩
            have hgo : ∀ b : Bool, ((seqD d).all fun r => areNums r (lenD r0)) = b → bOr (bNot (bOf (dChain gLe gLe (dK (.int 1)) (dVar 1) (dK (.int 4))))) (bNot (bOf (dApp gAll (dCons (eL (lComp [2] (lSeq (dVar 0)) (tgName .al 2) (bTrue) (dCall d_are_numbers (dCons (dVar 2) (dCons (dVar 1) (dNil)))))) (dNil))))) [.sh d, .sh (.int (lenD r0)), .no] p = some (!b, p) := fun b hb => by
              refine x_bOr (x_bNot (x_bOf c2)) ?_
              rw [if_neg (by decide)]
              rw [hb] at ha
              exact x_bNot (x_bOf ha)
            rw [← hd]
            cases hall : (seqD d).all fun r => areNums r (lenD r0) with
            | false =>
              exact x_def rfl (x_seq (x_iteF (p1 := p) t1 rfl) (x_seq (x_asgN len0) (x_seqR (x_iteT (p1 := p) (hgo false hall) (x_ret rfl)))))
            | true =>
              have hr : ∀ r ∈ seqD d, isSeqD r = true ∧ lenD r = lenD r0 ∧ ∀ x ∈ seqD r, isNumD x = true := fun r hr => by
                have := List.all_eq_true.mp hall r hr
                unfold areNums at this
                simp only [Bool.and_eq_true, decide_eq_true_eq, List.all_eq_true] at this
                exact this
              have hlen : ∀ r ∈ (seqD d).map clrD, r.length = (lenD r0).toNat := fun r hrr => by
                obtain ⟨y, hy, rfl⟩ := List.mem_map.mp hrr
                have := (hr y hy).2.1
                unfold clrD clearQ
                rw [List.length_map, List.length_map]
                unfold lenD at this ⊢
                omega
              have hbt : ∀ r ∈ (seqD d).map clrD, ∀ x ∈ r, Bt 121 x := fun r hrr => by
                obtain ⟨y, hy, rfl⟩ := List.mem_map.mp hrr
                have h2 := (hr y hy).2.1
                exact clear_bt hk2 (by rw [List.length_map]; unfold lenD at h2 hw; omega) (num_of (h.seq.2 y hy) (hr y hy).2.2)
              have e1 := j_ints_of (p := p) hk hk2 h hs fun r hrr => ⟨(hr r hrr).1, by have := (hr r hrr).2.1; unfold lenD at this hw; omega, (hr r hrr).2.2⟩
              have e2 := q_int_rank (p := p) hlen (by rw [List.length_map]; have := h.seq.1; omega) (by omega) hbt (by decide) (by decide)
              refine x_def rfl (x_seq (x_iteF (p1 := p) t1 rfl) (x_seq (x_asgN len0) (x_seq (x_iteF (p1 := p) (hgo true hall) rfl) (x_ret (x_bin (x_call (x_cons (x_call rfl e1) rfl) e2) rfl ?_)))))
              show some (D.bl (decide ((0 : Int) < (intRank ((seqD d).map clrD) : Nat)))) = _
              congr 2
              rw [Bool.true_and, Bool.eq_iff_iff, decide_eq_true_eq]
              have h0 : (0 : Int) < (intRank ((seqD d).map clrD) : Nat) ↔ 0 < intRank ((seqD d).map clrD) := by omega
              rw [h0, rank_nz hlen]
              simp only [List.any_eq_true]
              constructor
              · rintro ⟨r, hrr, x, hx, hx0⟩
                obtain ⟨y, hy, rfl⟩ := List.mem_map.mp hrr
                obtain ⟨z, hz, rfl⟩ := List.mem_map.mp hx
                obtain ⟨u, hu, rfl⟩ := List.mem_map.mp hz
                have hb := num_of (h.seq.2 y hy) (hr y hy).2.2
                exact ⟨y, hy, u, hu, decide_eq_true ((clear_nz (fun x hx => ⟨(hb x hx).1, (hb x hx).2.2⟩) hz).mp hx0)⟩
              · rintro ⟨y, hy, u, hu, h1⟩
                have hb := num_of (h.seq.2 y hy) (hr y hy).2.2
                have hz : nq u ∈ (seqD y).map nq := List.mem_map_of_mem hu
                exact ⟨clrD y, List.mem_map_of_mem hy, _, List.mem_map_of_mem hz, (clear_nz (fun x hx => ⟨(hb x hx).1, (hb x hx).2.2⟩) hz).mpr (of_decide_eq_true h1)⟩
          · rw [decide_eq_false hw] at c2
            rw [decide_eq_false hw, Bool.false_and, Bool.false_and]
            refine x_def rfl (x_seq (x_iteF (p1 := p) t1 rfl) (x_seq (x_asgN len0) (x_seqR (x_iteT (p1 := p) (x_bOr (x_bNot (x_bOf c2)) ?_) (x_ret rfl)))))
            rfl
        · have hs0' : isSeqD r0 = false := by simpa using hs0
          rw [hs0', Bool.false_and, Bool.false_and]
          refine x_def rfl (x_seqR (x_iteT (p1 := p) (x_bOr b1 ?_) (x_ret rfl)))
          rw [if_neg Bool.false_ne_true]
          refine x_bOr (x_bNot (x_bOf c1)) ?_
          rw [if_neg (by decide)]
          exact x_bNot (b := false) (x_bOf (x_call (x_cons i0 rfl) (by rw [j_is_list hr0.val, hs0'])))
      · rw [decide_eq_false h8, Bool.false_and, Bool.false_and]
        have d1 : decide ((1 : Int) ≤ ((seqD d).length : Nat) ∧ (((seqD d).length : Nat) : Int) ≤ 8) = false := decide_eq_false (by rw [hd]; omega)
        rw [d1] at c1
        refine x_def rfl (x_seqR (x_iteT (p1 := p) (x_bOr b1 ?_) (x_ret rfl)))
        rw [if_neg Bool.false_ne_true]
        refine x_bOr (x_bNot (x_bOf c1)) ?_
        rfl
  · have hs' : isSeqD d = false := by simpa using hs
    rw [hs', Bool.false_and]
    exact x_def rfl (x_seqR (x_iteT (p1 := p) (x_bOr (b := true) (x_bNot (b := false) (x_bOf (x_call rfl (by rw [j_is_list h.val, hs'])))) rfl) (x_ret rfl)))
end K36
namespace K36
open PySem PySem.Spec PyProof.Rows L2 DL RK
variable {p : Pot}
theorem j_tt {d : D} (h : isVal d = true) {ρ : DEnv} {f : EF} (hf : f ρ p = some (d, p)) : dApp (gIsTT .list .tuple) (dCons f (dCons (dTup (dCons (dK (.ty "list")) (dCons (dK (.ty "tuple")) dNil))) dNil)) ρ p = some (.bl (isSeqD d), p) := by
  refine x_app (x_cons hf rfl) ?_
  cases d <;> first | rfl | cases h
theorem j_tt' {d : D} (h : isVal d = true) {ρ : DEnv} {f : EF} (hf : f ρ p = some (d, p)) : dApp (gIsTT .tuple .list) (dCons f (dCons (dTup (dCons (dK (.ty "tuple")) (dCons (dK (.ty "list")) dNil))) dNil)) ρ p = some (.bl (isSeqD d), p) := by
  refine x_app (x_cons hf rfl) ?_
  cases d <;> first | rfl | cases h
theorem j_int {d : D} (h : isVal d = true) {ρ : DEnv} {f : EF} (hf : f ρ p = some (d, p)) : dApp (gIsT .int) (dCons f (dCons (dK (.ty "int")) dNil)) ρ p = some (.bl (match d with | .int _ => true | .bl _ => true | _ => false), p) := by
  refine x_app (x_cons hf rfl) ?_
  cases d <;> first | rfl | cases h
theorem x_lenSet {ρ : DEnv} {p1 : Pot} {l : LF} {ns : List Int} (h : l ρ p = some (ns.map D.int, p1)) (hl : ns.length ≤ 60) : dLenSet l ρ p = some (.int (sizeSet ns : Nat), p1) := by
  unfold dLenSet
  rw [h]
  simp only [Option.bind_some]
  rw [intsOf_map, Option.bind_some, if_pos hl]
theorem compI {t : TgF} {f : EF} {ρ : DEnv} (g : D → D) {xs : List D} (h : ∀ x ∈ xs, ∃ ρ', t ρ x = some ρ' ∧ f ρ' p = some (g x, p)) : dCompL t bTrue f xs ρ p = some (xs.map g, p) := by
  have := compM (t := t) (f := f) (ρ := ρ) (p := p) (fun x : D => x) g (xs := xs) h
  rw [show xs.map (fun x : D => x) = xs from List.map_id _] at this
  exact this
/-- the law's: is any value lists -/
theorem j_law_are_lists {d : D} {k : Nat} (hk : 0 < k) (h : Vd k d) : d__law_are_lists [d] p = some (.bl (areListsL d), p) := by
  have isTT := j_tt (p := p) h.val (ρ := startD n__law_are_lists false [d]) (f := dVar 0) rfl
  unfold areListsL
  by_cases hs : isSeqD d = true
  · rw [hs, Bool.true_and]
    rw [hs] at isTT
    have len : dApp gLen (dCons (dVar 0) (dNil)) (startD n__law_are_lists false [d]) p = some (.int (lenD d), p) := x_app rfl (g_lenS hs)
    have c1 := x_chk (lo := 1) (hi := 8) len
    have hl := h.seq.1
    by_cases h8 : 1 ≤ lenD d ∧ lenD d ≤ 8
    · rw [decide_eq_true h8] at c1
      rw [decide_eq_true h8, Bool.true_and]
      have t1 : bOr (bNot (bOf (dApp (gIsTT .list .tuple) (dCons (dVar 0) (dCons (dTup (dCons (dK (.ty "list")) (dCons (dK (.ty "tuple")) dNil))) dNil))))) (bNot (bOf (dChain gLe gLe (dK (.int 1)) (dApp gLen (dCons (dVar 0) (dNil))) (dK (.int 8))))) (startD n__law_are_lists false [d]) p = some (false, p) :=
        x_bOr (x_bNot (x_bOf isTT)) (x_bNot (x_bOf c1))
      have a1 : dApp gAll (dCons (eL (lComp [1] (lSeq (dVar 0)) (tgName .al 1) (bTrue) (dAnd (dApp (gIsTT .list .tuple) (dCons (dVar 1) (dCons (dTup (dCons (dK (.ty "list")) (dCons (dK (.ty "tuple")) dNil))) dNil))) (dChain gLe gLe (dK (.int 1)) (dApp gLen (dCons (dVar 1) (dNil))) (dK (.int 4)))))) (dNil)) (startD n__law_are_lists false [d]) p
          = some (.bl ((seqD d).all fun r => isSeqD r && decide (1 ≤ lenD r ∧ lenD r ≤ 4)), p) := x_all rfl (x_lSeq rfl hs) (by omega) fun r hr => ⟨_, rfl, by
        refine x_and (j_tt (h.seq.2 r hr).val rfl) ?_
        by_cases hsr : isSeqD r = true
        · rw [if_pos hsr, hsr, Bool.true_and]
          exact x_chk (x_app rfl (g_lenS hsr))
        · have : isSeqD r = false := by simpa using hsr
          rw [if_neg hsr, this, Bool.false_and]⟩
      cases hA : (seqD d).all fun r => isSeqD r && decide (1 ≤ lenD r ∧ lenD r ≤ 4) with
      | false =>
        rw [hA] at a1
        exact x_def rfl (x_seq (x_iteF t1 rfl) (x_seqR (x_iteT (p1 := p) (x_bOr (x_bNot (x_bOf a1)) rfl) (x_ret rfl))))
      | true =>
        rw [hA] at a1
        rw [Bool.true_and]
        have hr : ∀ r ∈ seqD d, isSeqD r = true ∧ 1 ≤ lenD r ∧ lenD r ≤ 4 := fun r hr => by
          have := List.all_eq_true.mp hA r hr
          simp only [Bool.and_eq_true, decide_eq_true_eq] at this
          exact this
        have ls : dBin gNe (dLenSet (lComp [1] (lSeq (dVar 0)) (tgName .al 1) (bTrue) (dApp gLen (dCons (dVar 1) (dNil))))) (dK (.int 1)) (startD n__law_are_lists false [d]) p = some (.bl (!decide (sizeSet ((seqD d).map lenD) = 1)), p) := by
          refine (x_bin (x_lenSet (ns := (seqD d).map lenD) (x_comp (p2 := p) rfl (x_lSeq rfl hs) ?_ (by rw [List.length_map, List.length_map]; omega)) (by rw [List.length_map]; unfold lenD at h8; omega)) rfl g_ne).trans ?_
          · rw [List.map_map]
            exact compI (fun r => D.int (lenD r)) fun r hrr => ⟨_, rfl, x_app rfl (g_lenS (hr r hrr).1)⟩
          · congr 3
            rw [Bool.eq_iff_iff]
            simp only [Bool.not_eq_true', decide_eq_false_iff_not]
            omega
        by_cases hS : sizeSet ((seqD d).map lenD) = 1
        · rw [decide_eq_true hS] at ls
          rw [decide_eq_true hS, Bool.true_and]
          have t2 : bOr (bNot (bOf (dApp gAll (dCons (eL (lComp [1] (lSeq (dVar 0)) (tgName .al 1) (bTrue) (dAnd (dApp (gIsTT .list .tuple) (dCons (dVar 1) (dCons (dTup (dCons (dK (.ty "list")) (dCons (dK (.ty "tuple")) dNil))) dNil))) (dChain gLe gLe (dK (.int 1)) (dApp gLen (dCons (dVar 1) (dNil))) (dK (.int 4)))))) (dNil))))) (bOf (dBin gNe (dLenSet (lComp [1] (lSeq (dVar 0)) (tgName .al 1) (bTrue) (dApp gLen (dCons (dVar 1) (dNil))))) (dK (.int 1)))) (startD n__law_are_lists false [d]) p = some (false, p) :=
            x_bOr (x_bNot (x_bOf a1)) (x_bOf ls)
          have a2 : dApp gAll (dCons (eL (lComp [1] (lSeq (dVar 0)) (tgName .al 1) (bTrue) (dApp gAll (dCons (eL (lComp [2] (lSeq (dVar 1)) (tgName .al 2) (bTrue) (dCall d__law_is_number (dCons (dVar 2) (dNil))))) (dNil))))) (dNil)) (startD n__law_are_lists false [d]) p = some (.bl ((seqD d).all fun r => (seqD r).all isNumD), p) :=
            x_all rfl (x_lSeq rfl hs) (by omega) fun r hrr => ⟨_, rfl, x_all rfl (x_lSeq rfl (hr r hrr).1) (by have := (h.seq.2 r hrr).seq.1; show (seqD r).length ≤ _; omega) fun x hx => ⟨_, rfl, x_call rfl (j_law_is_number ((h.seq.2 r hrr).seq.2 x hx).val)⟩⟩
          cases hB : (seqD d).all fun r => (seqD r).all isNumD with
          | false =>
            rw [hB] at a2
            exact x_def rfl (x_seq (x_iteF t1 rfl) (x_seq (x_iteF t2 rfl) (x_seqR (x_iteT (p1 := p) (x_bNot (x_bOf a2)) (x_ret rfl)))))
          | true =>
            rw [hB] at a2
            rw [Bool.true_and]
            have hn : ∀ r ∈ seqD d, ∀ x ∈ seqD r, isNumD x = true := fun r hrr => List.all_eq_true.mp (List.all_eq_true.mp hB r hrr)
            refine x_def rfl (x_seq (x_iteF t1 rfl) (x_seq (x_iteF t2 rfl) (x_seq (x_iteF (p1 := p) (x_bNot (x_bOf a2)) rfl) (x_ret ?_))))
            refine x_any rfl (x_lSeq rfl hs) (by omega) fun r hrr => ⟨_, rfl, x_any rfl (x_lSeq rfl (hr r hrr).1) (by have := (h.seq.2 r hrr).seq.1; show (seqD r).length ≤ _; omega) fun x hx => ⟨_, rfl, ?_⟩⟩
            refine (x_bin (x_bin (x_call rfl (j_law_of (hn r hrr x hx))) rfl (at_eQ _).1) rfl g_ne).trans ?_
            unfold nzD
            rw [decide_not]
        · rw [decide_eq_false hS] at ls
          rw [decide_eq_false hS, Bool.false_and]
          exact x_def rfl (x_seq (x_iteF t1 rfl) (x_seqR (x_iteT (p1 := p) (x_bOr (x_bNot (x_bOf a1)) (x_bOf ls)) (x_ret rfl))))
    · rw [decide_eq_false h8] at c1
      rw [decide_eq_false h8, Bool.false_and]
      exact x_def rfl (x_seqR (x_iteT (p1 := p) (x_bOr (x_bNot (x_bOf isTT)) (x_bNot (x_bOf c1))) (x_ret rfl)))
  · have hs' : isSeqD d = false := by simpa using hs
    rw [hs', Bool.false_and]
    rw [hs'] at isTT
    exact x_def rfl (x_seqR (x_iteT (p1 := p) (x_bOr (x_bNot (x_bOf isTT)) rfl) (x_ret rfl)))
/-! ### weights -/
def areWeights (n : Int) (d : D) : Bool := areNums d n && (seqD d).all fun x => decide (0 ≤ (nq x).1)
theorem j_are_weights {d : D} {n : Int} {k : Nat} (hk : 0 < k) (h : Vd k d) : d_are_weights [.int n, d] p = some (.bl (areWeights n d), p) := by
  unfold areWeights
  refine x_def rfl (x_ret (x_and (x_call rfl (j_are_numbers h)) ?_))
  by_cases ha : areNums d n = true
  · rw [if_pos ha, ha, Bool.true_and]
    have ha' := ha
    unfold areNums at ha'
    simp only [Bool.and_eq_true, decide_eq_true_eq, List.all_eq_true] at ha'
    obtain ⟨h1, h2, h3⟩ := ha'
    have e1 := j_ratios_of (p := p) h1 (by have := h.seq.1; omega) h3
    have hx : lOf (dCall d_ratios_of (dCons (dVar 1) (dNil))) (startD n_are_weights false [.int n, d]) p = some (((seqD d).map nq).map eA, p) := x_lOf (x_call rfl e1)
    have c : dCompL (tgName .al 2) bTrue (dBin gGe (dProp d_Rt_sign (dVar 2)) (dK (.int 0))) (((seqD d).map nq).map eA) (wipeD (startD n_are_weights false [.int n, d]) [2]) p = some (((seqD d).map nq).map fun x => D.bl (decide (0 ≤ x.1)), p) := by
      refine compM eA (fun x => D.bl (decide (0 ≤ x.1))) fun x hx => ⟨_, rfl, ?_⟩
      refine (x_bin (x_prop rfl rfl (q_sign x.1 x.2)) rfl g_rel).trans ?_
      congr 3
      rw [Bool.eq_iff_iff]
      simp only [decide_eq_true_eq]
      split <;> split <;> omega
    refine x_app (x_cons (x_eL (x_comp rfl hx c (by rw [List.length_map, List.length_map]; have := h.seq.1; omega))) rfl) ?_
    rw [g_allD, List.all_map]; rfl
  · have : areNums d n = false := by simpa using ha
    rw [if_neg ha, this, Bool.false_and]
theorem j_law_are_weights {d : D} {n : Int} {k : Nat} (hk : 0 < k) (h : Vd k d) : d__law_are_weights [.int n, d] p = some (.bl (areWeights n d), p) := by
  have isTT := j_tt (p := p) h.val (ρ := startD n__law_are_weights false [.int n, d]) (f := dVar 1) rfl
  unfold areWeights areNums
  have hl := h.seq.1
  by_cases hs : isSeqD d = true
  · rw [hs] at isTT ⊢
    rw [Bool.true_and]
    have ln : dBin gNe (dApp gLen (dCons (dVar 1) (dNil))) (dVar 0) (startD n__law_are_weights false [.int n, d]) p = some (.bl (!decide (((seqD d).length : Int) = n)), p) := x_bin (x_app rfl (g_lenS hs)) rfl g_ne
    by_cases hn : ((seqD d).length : Int) = n
    · rw [decide_eq_true hn] at ln ⊢
      rw [Bool.true_and]
      have a2 : dApp gAll (dCons (eL (lComp [2] (lSeq (dVar 1)) (tgName .al 2) (bTrue) (dCall d__law_is_number (dCons (dVar 2) (dNil))))) (dNil)) (startD n__law_are_weights false [.int n, d]) p = some (.bl ((seqD d).all isNumD), p) :=
        x_all rfl (x_lSeq rfl hs) (by omega) fun x hx => ⟨_, rfl, x_call rfl (j_law_is_number (h.seq.2 x hx).val)⟩
      cases hB : (seqD d).all isNumD with
      | false =>
        rw [hB] at a2
        exact x_def rfl (x_seqR (x_iteT (p1 := p) (x_bOr (x_bNot (x_bOf isTT)) (x_bOr (x_bOf ln) (x_bNot (x_bOf a2)))) (x_ret rfl)))
      | true =>
        rw [hB] at a2
        rw [Bool.true_and]
        refine x_def rfl (x_seq (x_iteF (p1 := p) (x_bOr (x_bNot (x_bOf isTT)) (x_bOr (x_bOf ln) (x_bNot (x_bOf a2)))) rfl) (x_ret ?_))
        exact x_all rfl (x_lSeq rfl hs) (by omega) fun x hx => ⟨_, rfl, x_bin (x_bin (x_call rfl (j_law_of (List.all_eq_true.mp hB x hx))) rfl (at_eQ _).1) rfl g_rel⟩
    · rw [decide_eq_false hn] at ln ⊢
      rw [Bool.false_and, Bool.false_and]
      exact x_def rfl (x_seqR (x_iteT (p1 := p) (x_bOr (x_bNot (x_bOf isTT)) (x_bOr (x_bOf ln) rfl)) (x_ret rfl)))
  · have hs' : isSeqD d = false := by simpa using hs
    rw [hs'] at isTT ⊢
    rw [Bool.false_and, Bool.false_and]
    exact x_def rfl (x_seqR (x_iteT (p1 := p) (x_bOr (x_bNot (x_bOf isTT)) rfl) (x_ret rfl)))
end K36
namespace K36
open PySem PySem.Spec PyProof.Rows L2 DL RK
variable {p : Pot}
def intD (d : D) : Int := (nq d).1
theorem ints_all : ∀ {l : List D}, (∀ x ∈ l, isIntD x = true) → l = (l.map intD).map D.int
  | [], _ => rfl
  | x :: l, h => by
    have h1 := h x List.mem_cons_self
    have ih := ints_all (l := l) fun y hy => h y (List.mem_cons_of_mem _ hy)
    rw [List.map_cons, List.map_cons, ← ih]
    cases x <;> first | rfl | cases h1
def isLotD (n : Int) (d : D) : Bool := isSeqD d && ((seqD d).all (fun x => isIntD x && decide (0 ≤ intD x ∧ intD x < n)) && (((seqD d).map intD).zip (((seqD d).map intD).drop 1)).all fun z => decide (z.1 < z.2))
theorem j_count {d : D} (h : isVal d = true) : d_is_count [d] p = some (.bl (isIntD d && decide (0 ≤ intD d)), p) := by cases d <;> first | rfl | cases h
theorem cut_one (l : List D) : DL.cutD l (some 1) none = l.drop 1 := by
  unfold DL.cutD
  have h1 : HT.sIx l.length 0 (some (1 : Int)) = min 1 l.length := HT.sIx_nat l.length 0 1
  rw [show HT.sIx l.length l.length none = l.length from HT.sIx_none .., h1]
  cases l with
  | nil => rfl
  | cons x l => simp
theorem x_zipS {ρ : DEnv} {p1 p2 : Pot} {f g : EF} {d e : D} (h : f ρ p = some (d, p1)) (h2 : g ρ p1 = some (e, p2)) (hk : (∃ a b, d = .lst a ∧ e = .lst b) ∨ ∃ a b, d = .tup a ∧ e = .tup b) : lZipS f g ρ p = some (((seqD d).zip (seqD e)).map fun z => D.tup [z.1, z.2], p2) := by
  unfold lZipS
  rw [h]
  simp only [Option.bind_some]
  rw [h2]
  rcases hk with ⟨a, b, rfl, rfl⟩ | ⟨a, b, rfl, rfl⟩ <;> rfl
theorem j_is_lot_of {d : D} {n : Int} {k : Nat} (h : Vd k d) : d_is_lot_of [.int n, d] p = some (.bl (isLotD n d), p) := by
  unfold isLotD
  have hl := h.seq.1
  by_cases hs : isSeqD d = true
  · rw [hs, Bool.true_and]
    have a1 : dApp gAll (dCons (eL (lComp [4] (lSeq (dVar 1)) (tgName .al 4) (bTrue) (dAnd (dCall d_is_count (dCons (dVar 4) (dNil))) (dBin gLt (dVar 4) (dVar 0))))) (dNil)) (startD n_is_lot_of false [.int n, d]) p = some (.bl ((seqD d).all fun x => isIntD x && decide (0 ≤ intD x ∧ intD x < n)), p) := by
      refine x_all rfl (x_lSeq rfl hs) (by omega) fun x hx => ⟨_, rfl, x_and (x_call rfl (j_count (h.seq.2 x hx).val)) ?_⟩
      by_cases hi : isIntD x = true
      · cases x <;> first | cases hi | skip
        rename_i i
        by_cases h0 : (0 : Int) ≤ i
        · have e : (isIntD (.int i) && decide (0 ≤ intD (.int i))) = true := by
            show (true && decide ((0 : Int) ≤ i)) = true
            rw [decide_eq_true h0]; rfl
          rw [if_pos e]
          refine (x_bin rfl rfl g_rel).trans ?_
          show some (D.bl (decide (i < n)), p) = some (D.bl (true && decide ((0 : Int) ≤ i ∧ i < n)), p)
          congr 3
          rw [Bool.true_and, Bool.eq_iff_iff]
          simp [h0]
        · have e : ¬ (isIntD (.int i) && decide (0 ≤ intD (.int i))) = true := by
            show ¬ (true && decide ((0 : Int) ≤ i)) = true
            rw [decide_eq_false h0]; decide
          rw [if_neg e]
          show some (D.bl false, p) = some (D.bl (true && decide ((0 : Int) ≤ i ∧ i < n)), p)
          rw [decide_eq_false (fun z => h0 z.1)]; rfl
      · have : isIntD x = false := by simpa using hi
        rw [this, Bool.false_and, if_neg Bool.false_ne_true, Bool.false_and]
    cases hA : (seqD d).all fun x => isIntD x && decide (0 ≤ intD x ∧ intD x < n) with
    | false =>
      rw [hA] at a1
      exact x_def rfl (x_seqR (x_iteT (p1 := p) (x_bOr (x_bNot (b := true) (x_bOf (x_call rfl (by rw [j_is_list h.val, hs])))) (x_bNot (x_bOf a1))) (x_ret rfl)))
    | true =>
      rw [hA] at a1
      rw [Bool.true_and]
      refine x_def rfl (x_seq (x_iteF (p1 := p) (x_bOr (x_bNot (b := true) (x_bOf (x_call rfl (by rw [j_is_list h.val, hs])))) (x_bNot (x_bOf a1))) rfl) (x_ret ?_))
      have hi : ∀ x ∈ seqD d, isIntD x = true := fun x hx => by
        have := List.all_eq_true.mp hA x hx
        rw [Bool.and_eq_true] at this
        exact this.1
      have hints := ints_all hi
      have hz : lZipS (dVar 1) (dSlG gSlA (dVar 1) (oSome (dK (.int 1))) (oNone)) (startD n_is_lot_of false [.int n, d]) p = some ((((seqD d).map intD).zip (((seqD d).map intD).drop 1)).map fun z => D.tup [.int z.1, .int z.2], p) := by
        have hsl : ∃ e, dSlG gSlA (dVar 1) (oSome (dK (.int 1))) (oNone) (startD n_is_lot_of false [.int n, d]) p = some (e, p) ∧ seqD e = (seqD d).drop 1 ∧ ((∃ a b, d = .lst a ∧ e = .lst b) ∨ ∃ a b, d = .tup a ∧ e = .tup b) := by
          cases d <;> first | cases hs | skip
          · rename_i l
            exact ⟨.lst (DL.cutD l (some 1) none), rfl, cut_one l, .inl ⟨_, _, rfl, rfl⟩⟩
          · rename_i l
            exact ⟨.tup (DL.cutD l (some 1) none), rfl, cut_one l, .inr ⟨_, _, rfl, rfl⟩⟩
        obtain ⟨e, e1, e2, e3⟩ := hsl
        rw [x_zipS rfl e1 e3, e2]
        conv => lhs; rw [hints]
        rw [← List.map_drop, List.zip_map, List.map_map]
        rfl
      have c := compM (t := tgTup .al [2, 3]) (f := dBin gLt (dVar 2) (dVar 3)) (ρ := wipeD (startD n_is_lot_of false [.int n, d]) [2, 3]) (p := p) (fun z : Int × Int => D.tup [.int z.1, .int z.2]) (fun z => D.bl (decide (z.1 < z.2))) (xs := ((seqD d).map intD).zip (((seqD d).map intD).drop 1)) fun z hz => ⟨_, rfl, x_bin rfl rfl g_rel⟩
      exact x_app (x_cons (x_eL (x_comp rfl hz c (by rw [List.length_map, List.length_zip, List.length_map]; omega))) rfl) (g_allD _ _)
  · have hs' : isSeqD d = false := by simpa using hs
    rw [hs', Bool.false_and]
    exact x_def rfl (x_seqR (x_iteT (p1 := p) (x_bOr (b := true) (x_bNot (b := false) (x_bOf (x_call rfl (by rw [j_is_list h.val, hs'])))) rfl) (x_ret rfl)))
theorem asc_zip : ∀ {l : List Int}, ((l.zip (l.drop 1)).all fun z => decide (z.1 < z.2)) = true ↔ l.Pairwise (· < ·)
  | [] => by simp
  | [x] => by simp
  | x :: y :: l => by
    have ih := asc_zip (l := y :: l)
    rw [show (x :: y :: l).drop 1 = y :: l from rfl, List.zip_cons_cons, List.all_cons, Bool.and_eq_true, decide_eq_true_eq]
    rw [show (y :: l).zip l = (y :: l).zip ((y :: l).drop 1) from rfl, ih]
    constructor
    · rintro ⟨h1, h2⟩
      refine List.pairwise_cons.mpr ⟨fun z hz => ?_, h2⟩
      rcases List.mem_cons.mp hz with rfl | hz
      · exact h1
      · exact Int.lt_trans h1 ((List.pairwise_cons.mp h2).1 z hz)
    · intro h
      obtain ⟨h1, h2⟩ := List.pairwise_cons.mp h
      exact ⟨h1 y List.mem_cons_self, h2⟩
theorem sortU_self {l : List Int} : sortU l = l ↔ l.Pairwise (· < ·) :=
  ⟨fun h => by rw [← h]; exact sortU_asc l, fun h => asc_uniq (sortU_asc l) h fun z => sortU_mem⟩
theorem j_law_is_lot {d : D} {n : Int} {k : Nat} (h : Vd k d) (h60 : (seqD d).length ≤ 60) : d__law_is_lot [.int n, d] p = some (.bl (isLotD n d), p) := by
  have isTT := j_tt (p := p) h.val (ρ := startD n__law_is_lot false [.int n, d]) (f := dVar 1) rfl
  unfold isLotD
  by_cases hs : isSeqD d = true
  · rw [hs] at isTT ⊢
    rw [Bool.true_and]
    have a1 : dApp gAll (dCons (eL (lComp [2] (lSeq (dVar 1)) (tgName .al 2) (bTrue) (dAnd (dApp (gIsT .int) (dCons (dVar 2) (dCons (dK (.ty "int")) dNil))) (dNot (dApp (gIsT .bool) (dCons (dVar 2) (dCons (dK (.ty "bool")) dNil))))))) (dNil)) (startD n__law_is_lot false [.int n, d]) p = some (.bl ((seqD d).all isIntD), p) := by
      refine x_all rfl (x_lSeq rfl hs) (by omega) fun x hx => ⟨_, rfl, ?_⟩
      have := (h.seq.2 x hx).val
      cases x <;> first | rfl | cases this
    cases hA : (seqD d).all isIntD with
    | false =>
      rw [hA] at a1
      have : ((seqD d).all fun x => isIntD x && decide (0 ≤ intD x ∧ intD x < n)) = false := by
        rw [Bool.eq_false_iff]
        intro z
        rw [← Bool.not_eq_true, ] at hA
        exact hA (List.all_eq_true.mpr fun x hx => (Bool.and_eq_true_iff.mp (List.all_eq_true.mp z x hx)).1)
      rw [this, Bool.false_and]
      exact x_def rfl (x_seqR (x_iteT (p1 := p) (x_bOr (x_bNot (x_bOf isTT)) (x_bNot (x_bOf a1))) (x_ret rfl)))
    | true =>
      rw [hA] at a1
      have hi := List.all_eq_true.mp hA
      have hints := ints_all hi
      refine x_def rfl (x_seq (x_iteF (p1 := p) (x_bOr (x_bNot (x_bOf isTT)) (x_bNot (x_bOf a1))) rfl) (x_ret ?_))
      have l1 : eL (lList (dVar 1)) (startD n__law_is_lot false [.int n, d]) p = some (eI ((seqD d).map intD), p) := by
        have : lList (dVar 1) (startD n__law_is_lot false [.int n, d]) p = some (((seqD d).map intD).map D.int, p) := by
          rw [← hints]; exact x_lList rfl hs
        exact x_eL this
      have l2 : eL (lSortSetS (dVar 1)) (startD n__law_is_lot false [.int n, d]) p = some (eI (sortU ((seqD d).map intD)), p) := by
        refine x_eL ?_
        unfold lSortSetS
        show (seqOf d).bind _ = _
        rw [seqOf_some hs, Option.bind_some, show intsOf (seqD d) = some ((seqD d).map intD) by
          conv => lhs; rw [hints]
          exact intsOf_map _]
        rw [Option.bind_some, if_pos (by rw [List.length_map]; exact h60)]
      refine x_and (x_bin l1 l2 eqI) ?_
      have e1 : (((seqD d).map intD).zip (((seqD d).map intD).drop 1)).all (fun z => decide (z.1 < z.2)) = decide ((seqD d).map intD = sortU ((seqD d).map intD)) := by
        rw [Bool.eq_iff_iff, asc_zip, ← sortU_self, decide_eq_true_eq]
        exact eq_comm
      rw [e1]
      by_cases he : (seqD d).map intD = sortU ((seqD d).map intD)
      · rw [decide_eq_true he, if_pos rfl, Bool.and_true]
        refine x_all rfl (x_lSeq rfl hs) (by omega) fun x hx => ⟨_, rfl, ?_⟩
        have hx1 := hi x hx
        cases x <;> first | cases hx1 | skip
        rename_i i
        show dChain gLe gLt (dK (.int 0)) (dVar 2) (dVar 0) [.sh (.int n), .sh d, .sh (.int i)] p = some (D.bl (true && decide ((0 : Int) ≤ i ∧ i < n)), p)
        simp only [ev_chain, ev_K, Option.bind_some, g_rel]
        by_cases h0 : (0 : Int) ≤ i
        · simp [h0]
        · simp [h0]
      · rw [decide_eq_false he, if_neg Bool.false_ne_true, Bool.and_false]
  · have hs' : isSeqD d = false := by simpa using hs
    rw [hs'] at isTT ⊢
    rw [Bool.false_and]
    exact x_def rfl (x_seqR (x_iteT (p1 := p) (x_bOr (x_bNot (x_bOf isTT)) rfl) (x_ret rfl)))
end K36
namespace K36
open PySem PySem.Spec PyProof.Rows L2 DL RK
variable {p : Pot}
/-- a lot, as a list or a tuple -/
def LotD (lot : List Int) (d : D) : Prop := d = eI lot ∨ d = .tup (lot.map D.int)
theorem LotD.seq {lot : List Int} {d : D} (h : LotD lot d) : isSeqD d = true ∧ seqD d = lot.map D.int := by rcases h with rfl | rfl <;> exact ⟨rfl, rfl⟩
theorem vd_ints {k : Nat} {l : List Int} (h : ∀ x ∈ l, Bt k x) (hl : l.length ≤ min 1000 (10 * k)) {d : D} (hd : LotD l d) : Vd k d := by
  have h2 : ∀ y ∈ l.map D.int, Vd k y := fun y hy => by
    obtain ⟨x, hx, rfl⟩ := List.mem_map.mp hy
    unfold Vd; exact h x hx
  rcases hd with rfl | rfl
  · exact vd_lst (by rw [List.length_map]; exact hl) h2
  · exact vd_tup (by rw [List.length_map]; exact hl) h2
theorem intD_map (l : List Int) : (l.map D.int).map intD = l := by
  rw [List.map_map]
  exact List.map_id l
theorem in_bt {n : Nat} {lot : List Int} (hin : In n lot) (hn : n ≤ 1000) : ∀ x ∈ lot, Bt 10 x := fun x hx => by
  have := hin x hx
  unfold Bt
  omega
theorem q_want_lotD {n : Nat} {lot : List Int} {d : D} (hd : LotD lot d) (hin : In n lot) (ha : Asc lot) (hl : lot.length ≤ 100) (hn : n ≤ 1000) : d_want_lot [.int (n : Nat), d] p = some (eI lot, p) := by
  have hv : Vd 10 d := vd_ints (in_bt hin hn) (by omega) hd
  have h1 := j_is_lot_of (p := p) (n := (n : Nat)) hv
  have h2 : isLotD (n : Nat) d = true := by
    unfold isLotD
    rw [hd.seq.1, hd.seq.2, intD_map, asc_zip.mpr ha, Bool.and_true, Bool.true_and, List.all_eq_true]
    intro y hy
    obtain ⟨x, hx, rfl⟩ := List.mem_map.mp hy
    show (true && decide ((0 : Int) ≤ x ∧ x < (n : Nat))) = true
    rw [decide_eq_true (hin x hx)]; rfl
  rw [h2] at h1
  exact x_def rfl (x_seq (x_iteF (p1 := p) (x_bNot (b := true) (x_bOf (x_call rfl h1))) rfl) (x_ret (x_eL ((x_lList rfl hd.seq.1).trans (by rw [hd.seq.2])))))
/-! ### lists as a list or a tuple of rows -/
def RowsD (rows : List (List Int)) (d : D) : Prop := d = eR rows ∨ d = .tup (rows.map eI)
section
variable {rows : List (List Int)} {ws : List (Int × Int)} {w b : Nat} (GL : Ls rows w b)
include GL
theorem q_intsD {d : D} (hd : RowsD rows d) : d_ints_of [d] p = some (eR rows, p) := by
  have := GL.many
  have h4 := GL.w4
  have hb := GL.b1
  rcases hd with rfl | rfl
  · exact q_ints GL
  · refine x_def rfl (x_ret ((x_eL (x_comp (es := rows.map eI) rfl (x_lSeqT rfl) (compM eI eI fun r hr => ⟨_, rfl, ?_⟩) (by rw [List.length_map]; omega))).trans rfl))
    have hl := GL.wide r hr
    exact x_bin (x_call (x_cons (x_call rfl (q_ratios_go (l := plainF r) (by unfold plainF; rw [List.length_map]; omega) (.inl (eI_plain r)))) rfl) (q_wholes (by omega) fun x hx => (GL.bits r hr x hx).mono (by omega))) rfl rfl
theorem vd_rows {d : D} (hd : RowsD rows d) : Vd 18 d := by
  have h2 : ∀ y ∈ rows.map eI, Vd 18 y := fun y hy => by
    obtain ⟨r, hr, rfl⟩ := List.mem_map.mp hy
    exact vd_ints (fun x hx => (GL.bits r hr x hx).mono GL.b1) (by rw [GL.wide r hr]; have := GL.w4; omega) (.inl rfl)
  have hm := GL.many
  rcases hd with rfl | rfl
  · exact vd_lst (by rw [List.length_map]; omega) h2
  · exact vd_tup (by rw [List.length_map]; omega) h2
theorem seq_rows {d : D} (hd : RowsD rows d) : isSeqD d = true ∧ seqD d = rows.map eI := by rcases hd with rfl | rfl <;> exact ⟨rfl, rfl⟩
theorem are_rows {d : D} (hd : RowsD rows d) : areListsD d = true := by
  obtain ⟨h1, h2⟩ := seq_rows GL hd
  have hm := GL.many
  have h1' := GL.one
  unfold areListsD areRowsD
  rw [h1, h2]
  obtain ⟨r, hr, x, hx, h0⟩ := (rank_nz GL.wide).mp GL.rank
  cases hrw : rows with
  | nil => rw [hrw] at h1'; simp at h1'
  | cons r0 rs =>
    simp only [List.map_cons, Bool.and_eq_true, decide_eq_true_eq, Bool.true_and, List.all_eq_true, List.any_eq_true]
    have hlen : ∀ r ∈ rows, lenD (eI r) = w := fun r hr => by
      show ((r.map D.int).length : Int) = w
      rw [List.length_map, GL.wide r hr]
    have h0w := hlen r0 (by rw [hrw]; exact List.mem_cons_self)
    refine ⟨⟨by rw [hrw] at hm; simpa using hm, rfl, ?_, fun d hd => ?_⟩, eI r, ?_, .int x, List.mem_map_of_mem hx, decide_eq_true h0⟩
    · rw [h0w]
      have := GL.w1
      have := GL.w4
      omega
    · obtain ⟨r, hr, rfl⟩ : ∃ r ∈ rows, d = eI r := by
        rw [hrw]
        rcases List.mem_cons.mp hd with rfl | hd
        · exact ⟨r0, List.mem_cons_self, rfl⟩
        · obtain ⟨r, hr, rfl⟩ := List.mem_map.mp hd
          exact ⟨r, List.mem_cons_of_mem _ hr, rfl⟩
      unfold areNums
      rw [Bool.and_eq_true, Bool.and_eq_true, decide_eq_true_eq, List.all_eq_true]
      refine ⟨rfl, by rw [h0w]; exact hlen r hr, fun y hy => ?_⟩
      obtain ⟨z, _, rfl⟩ := List.mem_map.mp hy
      rfl
    · rw [hrw] at hr
      rcases List.mem_cons.mp hr with rfl | hr
      · exact List.mem_cons_self
      · exact List.mem_cons_of_mem _ (List.mem_map_of_mem hr)
theorem q_want_listsD {d : D} (hd : RowsD rows d) : d_want_lists [d] p = some (eR rows, p) := by
  have h := j_are_lists (p := p) (by decide) (by decide) (vd_rows GL hd)
  rw [are_rows GL hd] at h
  exact x_def rfl (x_seq (x_iteF (p1 := p) (x_bNot (b := true) (x_bOf (x_ratF (x_call rfl h) (.inr rfl)))) rfl) (x_ret (x_call rfl (q_intsD GL hd))))
theorem len_rowsL : gLen [eR rows] = some (.int (rows.length : Nat)) := by
  show some (D.int (rows.map eI).length) = _
  rw [List.length_map]
theorem q_excessD (G : Rw rows ws w b) (h0 : ∀ y ∈ ws, 0 ≤ y.1) {d e : D} (hd : d = .lst (ws.map eW) ∨ d = .tup (ws.map eW)) {lot : List Int} (hl : lot ∈ lotsOf rows.length) (he : LotD lot e) : d_excess [eR rows, d, e] p = some (eA (excL rows ws lot), p) := by
  obtain ⟨h1, h2⟩ := lot_ok G hl
  have hm := G.many
  refine x_def rfl (x_seq (x_asgN (x_call rfl (q_want_lists GL))) (x_seq (x_asgN (x_call (x_cons (x_app (x_cons rfl rfl) (len_rowsL GL)) (x_cons rfl rfl)) (q_want_weights G.same (by omega) h0 hd))) (x_ret (x_call (x_cons rfl (x_cons rfl (x_cons (x_call (x_cons (x_app (x_cons rfl rfl) (len_rowsL GL)) (x_cons rfl rfl)) (q_want_lotD he h1 (lots_mem.mp hl).1 (by omega) (by omega))) rfl))) ((q_excess_in G h1 h2).trans ?_)))))
  rw [exc_eq G h1 h2]
theorem q_lot_rankD (G : Rw rows ws w b) {e : D} {lot : List Int} (hl : lot ∈ lotsOf rows.length) (he : LotD lot e) : d_lot_rank [eR rows, e] p = some (.int (intRank (sel rows [] lot) : Nat), p) := by
  obtain ⟨h1, h2⟩ := lot_ok G hl
  have hm := G.many
  exact x_def rfl (x_seq (x_asgN (x_call rfl (q_want_lists GL))) (x_ret (x_call (x_cons rfl (x_cons (x_call (x_cons (x_app (x_cons rfl rfl) (len_rowsL GL)) (x_cons rfl rfl)) (q_want_lotD he h1 (lots_mem.mp hl).1 (by omega) (by omega))) rfl)) (q_rank_in G.wide rfl h1 (by omega) G.w4 G.bits G.b0 (by have := G.b1; omega)))))
end
/-! ### bases -/
theorem eq_nat {n m : Nat} : decide (((n : Nat) : Int) = ((m : Nat) : Int)) = decide (n = m) := by
  rw [Bool.eq_iff_iff, decide_eq_true_eq, decide_eq_true_eq]
  omega
def basesL (rows : List (List Int)) : List (List Int) := (lotsOf rows.length).filter fun lot => decide (lot.length = intRank rows) && decide (intRank (sel rows [] lot) = intRank rows)
section
variable {rows : List (List Int)} {ws : List (Int × Int)} {w b : Nat} (G : Rw rows ws w b)
include G
theorem bases_many : (basesL rows).length ≤ 256 := Nat.le_trans (List.length_filter_le _ _) (lots_many G)
theorem q_bases_in : d_bases_in [eR rows] p = some (.lst (sortR (basesL rows)), p) := by
  have hm := G.many
  have hlen : gLen [eR rows] = some (.int (rows.length : Nat)) := by
    show some (D.int (rows.map eI).length) = _
    rw [List.length_map]
  have e1 : d_int_rank [eR rows] p = some (.int (intRank rows : Nat), p) := q_int_rank G.wide (by omega) G.w4 G.bits G.b0 (by have := G.b1; omega)
  have hmany := lots_many G
  have c1 : dCompL (tgName .al 3) (bOf (dBin gEq (dApp gLen (dCons (dVar 3) (dNil))) (dVar 1))) (dVar 3) ((lotsOf rows.length).map eI) [.sh (eR rows), .sh (.int (intRank rows : Nat)), .no, .no] p = some (((lotsOf rows.length).filter fun lot => decide (lot.length = intRank rows)).map eI, p) :=
    compL eI (fun lot => decide (lot.length = intRank rows)) eI fun lot hl => ⟨_, rfl, (x_bOf (x_bin (x_app rfl (show gLen [eI lot] = some (.int (lot.length : Nat)) by
      show some (D.int (lot.map D.int).length) = _
      rw [List.length_map])) rfl g_eq)).trans (by rw [eq_nat]), fun _ => rfl⟩
  have s1 : eL (lComp [3] (lOf (dCall d_lots_of (dCons (dApp gLen (dCons (dVar 0) (dNil))) (dNil)))) (tgName .al 3) (bOf (dBin gEq (dApp gLen (dCons (dVar 3) (dNil))) (dVar 1))) (dVar 3)) [.sh (eR rows), .sh (.int (intRank rows : Nat)), .no, .no] p = some (eR ((lotsOf rows.length).filter fun lot => decide (lot.length = intRank rows)), p) :=
    x_eL (x_comp rfl (x_lOf (x_call (x_cons (x_app rfl hlen) rfl) (q_lots_of (by omega)))) c1 (by rw [List.length_map]; have := List.length_filter_le (fun lot : List Int => decide (lot.length = intRank rows)) (lotsOf rows.length); omega))
  have c2 : dCompL (tgName .al 3) (bOf (dBin gEq (dCall d_rank_in (dCons (dVar 0) (dCons (dVar 3) (dNil)))) (dVar 1))) (dVar 3) (((lotsOf rows.length).filter fun lot => decide (lot.length = intRank rows)).map eI) [.sh (eR rows), .sh (.int (intRank rows : Nat)), .sh (eR ((lotsOf rows.length).filter fun lot => decide (lot.length = intRank rows))), .no] p = some ((basesL rows).map eI, p) := by
    have := compL (t := tgName .al 3) (c := bOf (dBin gEq (dCall d_rank_in (dCons (dVar 0) (dCons (dVar 3) (dNil)))) (dVar 1))) (f := dVar 3) (ρ := [.sh (eR rows), .sh (.int (intRank rows : Nat)), .sh (eR ((lotsOf rows.length).filter fun lot => decide (lot.length = intRank rows))), .no]) (p := p) eI (fun lot => decide (intRank (sel rows [] lot) = intRank rows)) eI (xs := (lotsOf rows.length).filter fun lot => decide (lot.length = intRank rows)) fun lot hl => ⟨_, rfl, (x_bOf (x_bin (x_call rfl (by
      obtain ⟨h1, h2⟩ := lot_ok G (List.mem_filter.mp hl).1
      exact q_rank_in (p := p) G.wide rfl h1 (by omega) G.w4 G.bits G.b0 (by have := G.b1; omega))) rfl g_eq)).trans (by rw [eq_nat]), fun _ => rfl⟩
    rw [List.filter_filter] at this
    exact this.trans (congrArg (fun l : List (List Int) => some (l.map eI, p)) (List.filter_congr fun lot _ => Bool.and_comm _ _))
  refine x_def rfl (x_seq (x_asgN (x_call rfl e1)) (x_seq (x_asgN s1) (x_ret (x_eL (x_sorted (x_comp rfl (x_lOf rfl) c2 (by rw [List.length_map]; have := bases_many G; omega)))))))
theorem q_law_bases : d__law_bases [eQR (plains rows)] p = some (.lst (sortR (basesL rows)), p) := by
  have hm := G.many
  have hlen : gLen [eQR (plains rows)] = some (.int (rows.length : Nat)) := by
    show some (D.int ((plains rows).map eQs).length) = _
    unfold plains
    rw [List.length_map, List.length_map]
  have hmany := lots_many G
  have c1 : dCompL (tgName .al 2) (bAnd (bOf (dBin gEq (dApp gLen (dCons (dVar 2) (dNil))) (dVar 1))) (bOf (dBin gEq (dCall d__law_lot_rank (dCons (dVar 0) (dCons (dVar 2) (dNil)))) (dVar 1)))) (dVar 2) ((lotsOf rows.length).map eI) [.sh (eQR (plains rows)), .sh (.int (intRank rows : Nat)), .no] p = some ((basesL rows).map eI, p) := by
    refine compL eI (fun lot => decide (lot.length = intRank rows) && decide (intRank (sel rows [] lot) = intRank rows)) eI fun lot hl => ⟨_, rfl, ?_, fun _ => rfl⟩
    obtain ⟨h1, h2⟩ := lot_ok G hl
    refine x_bAnd ((x_bOf (x_bin (x_app rfl (show gLen [eI lot] = some (.int (lot.length : Nat)) by
      show some (D.int (lot.map D.int).length) = _
      rw [List.length_map])) rfl g_eq)).trans (by rw [eq_nat])) ?_
    by_cases he : lot.length = intRank rows
    · rw [decide_eq_true he, if_pos rfl, Bool.true_and]
      exact (x_bOf (x_bin (x_call rfl (q_law_lot_rank G h1 h2)) rfl g_eq)).trans (by rw [eq_nat])
    · rw [decide_eq_false he, if_neg Bool.false_ne_true, Bool.false_and]
  exact x_def rfl (x_seq (x_asgN (x_call rfl (q_law_rank_all G))) (x_ret (x_eL (x_sorted (x_comp rfl (x_lOf (x_call (x_cons (x_app rfl hlen) rfl) (q_law_lots (by omega)))) c1 (by rw [List.length_map]; have := bases_many G; omega))))))
theorem q_bases (GL : Ls rows w b) {d : D} (hd : RowsD rows d) : d_bases [d] p = some (.lst (sortR (basesL rows)), p) := x_def rfl (x_ret (x_call (x_cons (x_call rfl (q_want_listsD GL hd)) rfl) (q_bases_in G)))
end
end K36
namespace K36
open PySem PySem.Spec PyProof.Rows L2 DL RK
theorem fq_low {a b : Int} {k : Nat} (hb : 0 < b) (ha : Bt k a) (hbb : Bt (min 15 (k - 6)) b) : Vd k (eA (low a b)) := by
  have hg : 0 < Nat.gcd a.natAbs b.natAbs := Nat.gcd_pos_of_pos_right _ (by omega)
  have n := low_nf (a := a) hb
  unfold eA Vd
  exact ⟨n.pos, n.cop, fdiv_bt ha (Int.ofNat_dvd_left.mpr (Nat.gcd_dvd_left _ _)) (by omega), fdiv_bt hbb (Int.ofNat_dvd_left.mpr (Nat.gcd_dvd_right _ _)) (by omega)⟩
/-! ### one thing otherwise -/
/-- what is picked where the value is no list, no tuple, or stays whole -/
def bentPicks (d : D) : List D := match d with
  | .rat t b => [eA (low (t * 1 + 1 * b) (b * 1)), eA (low (t * 7 - 1 * b) (b * 7)), eA (low (0 - t) b), eA (0, 1), .int 0, .non, .tup [.int t, .int b]]
  | .int i => [.int (i + 1), .int (i - 1), .bl true, .non, .int 0, .int 1, .int (-1)]
  | .bl x => [.bl x]
  | .tup l => [.non, .int 0, .lst l, .tup [], .str "x", .edict]
  | _ => [.non, .int 0, .lst [], .tup [], .str "x", .edict]
noncomputable abbrev pkRat : LF := lLst (dCons (dBop d_Rt_add (dVar 1) (dK (.int 1))) (dCons (dBop d_Rt_sub (dVar 1) (dCall (fun a => mkRat (a ++ [])) (dCons (dK (.int 1)) (dCons (dK (.int 7)) (dNil))))) (dCons (dNegO d_Rt_neg (dVar 1)) (dCons (dCall (fun a => mkRat (a ++ [.int 1])) (dCons (dK (.int 0)) (dNil))) (dCons (dK (.int 0)) (dCons (dK .non) (dCons (dTup (dCons (dProp d_Rt_top (dVar 1)) (dCons (dProp d_Rt_bottom (dVar 1)) (dNil)))) (dNil))))))))
noncomputable abbrev pkInt : LF := lLst (dCons (dBin gAdd (dVar 1) (dK (.int 1))) (dCons (dBin gSub (dVar 1) (dK (.int 1))) (dCons (dK (.bl true)) (dCons (dK .non) (dCons (dK (.int 0)) (dCons (dK (.int 1)) (dCons (dNeg (dK (.int 1))) (dNil))))))))
noncomputable abbrev pkOth : LF := lLst (dCons (dK .non) (dCons (dK (.int 0)) (dCons (dIf (bOf (dApp (gIsT .tuple) (dCons (dVar 1) (dCons (dK (.ty "tuple")) dNil)))) (eL (lList (dVar 1))) (dLst (dNil))) (dCons (dTup (dNil)) (dCons (dK (.str "x")) (dCons (dK .edict) (dNil)))))))
noncomputable abbrev bentRest : SF := dSeq (dIte (bOf (dIsRat (dVar 1))) (dRet (dPick 8329 (dVar 0) pkRat)) (dNext)) (dSeq (dIte (bOf (dApp (gIsT .int) (dCons (dVar 1) (dCons (dK (.ty "int")) dNil)))) (dRet (dPick 8329 (dVar 0) pkInt)) (dNext)) (dRet (dPick 8329 (dVar 0) pkOth)))
theorem bt7 : Bt 3 7 := by unfold Bt; decide
theorem lst_lens : ([] : List D).length ≤ 65536 := by simp
theorem bent_rest {k : Nat} (hk : 8 ≤ k) (hk2 : k ≤ 18) {d : D} (h : Vd k d) (hb : ∀ b, d ≠ .bl b) {p : Pot} (hp : Ip p) : ∃ d' p', bentRest [.sh .pot, .sh d, .no, .no, .no] p = some (.rt d', [.sh .pot, .sh d, .no, .no, .no], p') ∧ Ip p' ∧ Vd (k + 4) d' := by
  have hx : (Str.ofString "x").length ≤ 10 := by decide
  have strx : Vd (k + 4) (.str "x") := by unfold Vd; exact hx
  have non : Vd (k + 4) .non := by unfold Vd; trivial
  have edi : Vd (k + 4) .edict := by unfold Vd; trivial
  have blt : Vd (k + 4) (.bl true) := by unfold Vd; trivial
  have i0 : ∀ i : Int, i.natAbs ≤ 1 → Vd (k + 4) (.int i) := fun i hi => by
    unfold Vd Bt
    have : 2 ^ 1 ≤ 2 ^ (k + 4) := Nat.pow_le_pow_right (by decide) (by omega)
    omega
  have lst0 : Vd (k + 4) (.lst []) := vd_lst (Nat.zero_le _) fun x hx => absurd hx (by simp)
  have tup0 : Vd (k + 4) (.tup []) := vd_tup (Nat.zero_le _) fun x hx => absurd hx (by simp)
  have pick : ∀ (l : LF) (ds : List D), l [.sh .pot, .sh d, .no, .no, .no] p = some (ds, p) → ds ≠ [] → ds.length < 1000000 → (∀ x ∈ ds, Vd (k + 4) x) → ∃ d' p', dRet (dPick 8329 (dVar 0) l) [.sh .pot, .sh d, .no, .no, .no] p = some (.rt d', [.sh .pot, .sh d, .no, .no, .no], p') ∧ Ip p' ∧ Vd (k + 4) d' := fun l ds hl h0 h1 hv => by
    obtain ⟨d', p', e1, e2, e3⟩ := pk_call (f := dVar 0) (ρ := [.sh .pot, .sh d, .no, .no, .no]) rfl hl hp h0 h1
    exact ⟨d', p', x_ret e1, e3, hv d' e2⟩
  have oth : ∀ l, (dIf (bOf (dApp (gIsT .tuple) (dCons (dVar 1) (dCons (dK (.ty "tuple")) dNil)))) (eL (lList (dVar 1))) (dLst (dNil))) [.sh .pot, .sh d, .no, .no, .no] p = some (.lst l, p) → l.length ≤ min 1000 (10 * (k + 4)) → (∀ x ∈ l, Vd (k + 4) x) →
      ∃ d' p', dRet (dPick 8329 (dVar 0) pkOth) [.sh .pot, .sh d, .no, .no, .no] p = some (.rt d', [.sh .pot, .sh d, .no, .no, .no], p') ∧ Ip p' ∧ Vd (k + 4) d' := fun l hl h1 h2 =>
    pick pkOth [.non, .int 0, .lst l, .tup [], .str "x", .edict] (x_lLst (x_cons rfl (x_cons rfl (x_cons hl rfl))) (by simp)) (by simp) (by simp) fun x hx => by
      simp only [List.mem_cons, List.not_mem_nil, or_false] at hx
      rcases hx with rfl | rfl | rfl | rfl | rfl | rfl
      · exact non
      · exact i0 0 (by decide)
      · exact vd_lst h1 h2
      · exact tup0
      · exact strx
      · exact edi
  cases d with
  | rat t b =>
    unfold Vd at h
    have hrb : Rb k (t, b) := ⟨h.pos, h.top, h.bot.mono (by omega)⟩
    have e1 : d_Rt_add [.rat t b, .int 1] p = some (eA (low (t * 1 + 1 * b) (b * 1)), p) := by
      have m1 := mul_ok (x := t) (y := 1) h.top (Bt.one (n := 2) (by decide)) (by omega) (by decide) (by omega)
      have m2 := mul_ok (x := 1) (y := b) (Bt.one (n := 2) (by decide)) hrb.bot (by decide) (by omega) (by omega)
      have m3 := mul_ok (x := b) (y := 1) hrb.bot (Bt.one (n := 2) (by decide)) (by omega) (by decide) (by omega)
      refine x_def rfl (x_seq (x_asg (x_call rfl (q_told 1)) rfl) (x_ret (x_call (x_cons (x_bin (x_bin rfl rfl m1) (x_bin rfl rfl m2) g_add) (x_cons (x_bin rfl rfl m3) rfl)) ?_)))
      have hb0 := h.pos
      have : b.natAbs.log2 < k := hrb.bot.log (by omega)
      exact mkRat_low (by omega) (by rw [Int.mul_one]; omega)
    have e7 : dCall (fun a => mkRat (a ++ [])) (dCons (dK (.int 1)) (dCons (dK (.int 7)) (dNil))) [.sh .pot, .sh (.rat t b), .no, .no, .no] p = some (.rat 1 7, p) := by
      refine x_call rfl ((mkRat_low (by decide) (by decide)).trans ?_)
      rfl
    have e2 : d_Rt_sub [.rat t b, .rat 1 7] p = some (eA (low (t * 7 - 1 * b) (b * 7)), p) := q_sub (x := (t, b)) (y := (1, 7)) (n := k) (m := 3) hrb ⟨by decide, Bt.one (by decide), bt7⟩ (by omega) (by decide) (by omega)
    have e3 : d_Rt_neg [.rat t b] p = some (eA (low (0 - t) b), p) := by
      refine x_def rfl (x_ret (x_call (x_cons (x_bin rfl rfl g_sub) (x_cons rfl rfl)) ?_))
      exact mkRat_low h.pos (by have : b.natAbs.log2 < k := hrb.bot.log (by omega); omega)
    have e4 : dCall (fun a => mkRat (a ++ [.int 1])) (dCons (dK (.int 0)) (dNil)) [.sh .pot, .sh (.rat t b), .no, .no, .no] p = some (eA (0, 1), p) := x_call rfl (mkRat_low (by decide) (by decide))
    obtain ⟨d', p', r1, r2, r3⟩   := pick pkRat [eA (low (t * 1 + 1 * b) (b * 1)), eA (low (t * 7 - 1 * b) (b * 7)), eA (low (0 - t) b), eA (0, 1), .int 0, .non, .tup [.int t, .int b]]
      (x_lLst (x_cons (x_bop rfl rfl ⟨rfl, rfl⟩ e1) (x_cons (x_bop rfl e7 ⟨rfl, rfl⟩ e2) (x_cons (show dNegO d_Rt_neg (dVar 1) [.sh .pot, .sh (.rat t b), .no, .no, .no] p = _ from e3) (x_cons e4 (x_cons rfl (x_cons rfl (x_cons (x_tup (x_cons (x_prop rfl rfl (q_top t b)) (x_cons (x_prop rfl rfl (q_bottom t b)) rfl)) (by simp)) rfl))))))) (by simp)) (by simp) (by simp) fun x hx => by
        have hb0 := h.pos
        have bm : ∀ n, Bt (min 15 (k - 6)) n → Bt (min 15 (k + 4 - 6)) n := fun n hn => hn.mono (by omega)
        simp only [List.mem_cons, List.not_mem_nil, or_false] at hx
        rcases hx with rfl | rfl | rfl | rfl | rfl | rfl | rfl
        · refine fq_low (by omega) ?_ (by rw [Int.mul_one]; exact bm b h.bot)
          rw [Int.mul_one, Int.one_mul]
          exact (h.top.add hrb.bot).mono (by omega)
        · refine fq_low (by omega) ?_ ((h.bot.mul bt7).mono (by omega))
          rw [Int.one_mul]
          exact ((h.top.mul bt7).sub (hrb.bot.mono (by omega))).mono (by omega)
        · refine fq_low h.pos ?_ (bm b h.bot)
          have := h.top.mono (show k ≤ k + 4 by omega)
          unfold Bt at this ⊢
          omega
        · unfold eA Vd
          exact ⟨by decide, by decide, Bt.zero, Bt.one (by omega)⟩
        · exact i0 0 (by decide)
        · exact non
        · refine vd_tup (by simp; omega) fun y hy => ?_
          simp only [List.mem_cons, List.not_mem_nil, or_false] at hy
          rcases hy with rfl | rfl
          · unfold Vd; exact h.top.mono (by omega)
          · unfold Vd; exact hrb.bot.mono (by omega)
    exact ⟨d', p', x_seqR (x_iteT (p1 := p) rfl r1), r2, r3⟩
  | int i =>
    unfold Vd at h
    have hb1 : ∀ y : Int, y.natAbs ≤ i.natAbs + 1 → Vd (k + 4) (.int y) := fun y hy => by
      unfold Vd
      unfold Bt at h ⊢
      have : 2 ^ k * 2 ≤ 2 ^ (k + 4) := by rw [← Nat.pow_succ]; exact Nat.pow_le_pow_right (by decide) (by omega)
      omega
    obtain ⟨d', p', r1, r2, r3⟩ := pick pkInt [.int (i + 1), .int (i - 1), .bl true, .non, .int 0, .int 1, .int (-1)]
      (x_lLst (x_cons (x_bin rfl rfl g_add) (x_cons (x_bin rfl rfl g_sub) rfl)) (by simp)) (by simp) (by simp) fun x hx => by
        simp only [List.mem_cons, List.not_mem_nil, or_false] at hx
        rcases hx with rfl | rfl | rfl | rfl | rfl | rfl | rfl
        · exact hb1 _ (by omega)
        · exact hb1 _ (by omega)
        · exact blt
        · exact non
        · exact i0 0 (by decide)
        · exact i0 1 (by decide)
        · exact i0 (-1) (by decide)
    exact ⟨d', p', x_seq (x_iteF (p1 := p) rfl rfl) (x_seqR (x_iteT (p1 := p) rfl r1)), r2, r3⟩
  | bl x => exact absurd rfl (hb x)
  | tup l =>
    have hs := h.seq
    have hl := h.len
    obtain ⟨d', p', r1, r2, r3⟩ := oth l rfl (by have h1 : l.length ≤ 1000 := hs.1; have h2 : l.length ≤ 10 * k := hl; omega) fun x hx => (hs.2 x hx).mono (by omega)
    exact ⟨d', p', x_seq (x_iteF (p1 := p) rfl rfl) (x_seq (x_iteF (p1 := p) rfl rfl) r1), r2, r3⟩
  | lst l =>
    obtain ⟨d', p', r1, r2, r3⟩ := oth [] rfl (Nat.zero_le _) fun x hx => absurd hx (by simp)
    exact ⟨d', p', x_seq (x_iteF (p1 := p) rfl rfl) (x_seq (x_iteF (p1 := p) rfl rfl) r1), r2, r3⟩
  | non =>
    obtain ⟨d', p', r1, r2, r3⟩ := oth [] rfl (Nat.zero_le _) fun x hx => absurd hx (by simp)
    exact ⟨d', p', x_seq (x_iteF (p1 := p) rfl rfl) (x_seq (x_iteF (p1 := p) rfl rfl) r1), r2, r3⟩
  | edict =>
    obtain ⟨d', p', r1, r2, r3⟩ := oth [] rfl (Nat.zero_le _) fun x hx => absurd hx (by simp)
    exact ⟨d', p', x_seq (x_iteF (p1 := p) rfl rfl) (x_seq (x_iteF (p1 := p) rfl rfl) r1), r2, r3⟩
  | str s =>
    obtain ⟨d', p', r1, r2, r3⟩ := oth [] rfl (Nat.zero_le _) fun x hx => absurd hx (by simp)
    exact ⟨d', p', x_seq (x_iteF (p1 := p) rfl rfl) (x_seq (x_iteF (p1 := p) rfl rfl) r1), r2, r3⟩
  | pot => unfold Vd at h; exact h.elim
  | ty n => unfold Vd at h; exact h.elim
  | obj a => unfold Vd at h; exact h.elim
end K36
namespace K36
open PySem PySem.Spec PyProof.Rows L2 DL RK
mutual
def nbD : D → Bool
  | .bl _ => false
  | .lst l => nbA l
  | .tup l => nbA l
  | _ => true
def nbA : List D → Bool
  | [] => true
  | d :: ds => nbD d && nbA ds
end
theorem nbA_mem : ∀ {l : List D}, nbA l = true → ∀ x ∈ l, nbD x = true
  | d :: ds, h, x, hx => by
    unfold nbA at h
    rw [Bool.and_eq_true] at h
    rcases List.mem_cons.mp hx with rfl | hx
    · exact h.1
    · exact nbA_mem h.2 x hx
theorem nb_seq {d : D} (h : nbD d = true) : ∀ x ∈ seqD d, nbD x = true := by
  cases d with
  | lst l => unfold nbD at h; exact nbA_mem h
  | tup l => unfold nbD at h; exact nbA_mem h
  | _ => exact fun x hx => absurd hx (by simp [seqD, seqOf])
theorem dp_seq {d : D} {n : Nat} (h : dpD d < n + 1) {x : D} (hx : x ∈ seqD d) : dpD x < n := by
  cases d with
  | lst l =>
    unfold dpD at h
    have := dpAll_mem (show x ∈ l from hx)
    omega
  | tup l =>
    unfold dpD at h
    have := dpAll_mem (show x ∈ l from hx)
    omega
  | _ => exact absurd hx (by simp [seqD, seqOf])
/-- of the kind of d -/
def mkS (d : D) (l : List D) : D := match d with
  | .lst _ => .lst l
  | _ => .tup l
theorem mk_self {d : D} (h : isSeqD d = true) : d = mkS d (seqD d) := by
  cases d <;> first | rfl | cases h
theorem mk_vd {d : D} {k : Nat} {l : List D} (h1 : l.length ≤ min 1000 (10 * k)) (h2 : ∀ x ∈ l, Vd k x) : Vd k (mkS d l) := by
  cases d <;> first | exact vd_lst h1 h2 | exact vd_tup h1 h2
theorem mk_add (d : D) {l m : List D} (h : l.length + m.length ≤ 65536) : gAddB (mkS d l) (mkS d m) = some (mkS d (l ++ m)) := by
  cases d <;> exact if_pos h
theorem mk_back {d : D} (h : isSeqD d = true) : gBack d = some (mkS d (seqD d).reverse) := by
  cases d <;> first | rfl | cases h
theorem mk_cut {d : D} (h : isSeqD d = true) (lo hi : Option Int) : gSlA d lo hi = some (mkS d (DL.cutD (seqD d) lo hi)) := by
  cases d <;> first | rfl | cases h
theorem cut_to {l : List D} {i : Nat} (h : i ≤ l.length) : DL.cutD l none (some (i : Int)) = l.take i := by
  unfold DL.cutD
  rw [show HT.sIx l.length 0 none = 0 from HT.sIx_none .., show HT.sIx l.length l.length (some (i : Int)) = min i l.length from HT.sIx_nat ..]
  rw [Nat.min_eq_left h]; simp
theorem cut_from {l : List D} {i : Nat} (h : i ≤ l.length) : DL.cutD l (some (i : Int)) none = l.drop i := by
  unfold DL.cutD
  rw [show HT.sIx l.length l.length none = l.length from HT.sIx_none .., show HT.sIx l.length 0 (some (i : Int)) = min i l.length from HT.sIx_nat ..]
  rw [Nat.min_eq_left h, List.take_of_length_le (by rw [List.length_drop]; omega)]
theorem x_sl {ρ : DEnv} {p : Pot} {f : EF} {lo hi : PFo} {d : D} {a b : Option Int} (h : isSeqD d = true) (hf : f ρ p = some (d, p)) (h1 : lo ρ p = some (a, p)) (h2 : hi ρ p = some (b, p)) : dSlG gSlA f lo hi ρ p = some (mkS d (DL.cutD (seqD d) a b), p) := by
  unfold dSlG
  rw [hf]
  simp only [Option.bind_some]
  rw [h1]
  simp only [Option.bind_some]
  rw [h2]
  simp only [Option.bind_some]
  rw [mk_cut h]; rfl
theorem x_oSome {ρ : DEnv} {p : Pot} {f : EF} {i : Int} (h : f ρ p = some (.int i, p)) : oSome f ρ p = some (some i, p) := by
  unfold oSome
  rw [h]; rfl
noncomputable abbrev bentCond : BF := bAnd (bOf (dApp (gIsTT .tuple .list) (dCons (dVar 1) (dCons (dTup (dCons (dK (.ty "tuple")) (dCons (dK (.ty "list")) dNil))) dNil)))) (bAnd (bOf (dBin gGt (dApp gLen (dCons (dVar 1) (dNil))) (dK (.int 0)))) (bOf (dBin gGt (dCall d__law_draw (dCons (dVar 0) (dCons (dK (.int 7)) (dNil)))) (dK (.int 0)))))
noncomputable abbrev bentThen (self_ : PF) : SF := dSeq (dPar 3 4 (dCall d__law_draw (dCons (dVar 0) (dCons (dApp gLen (dCons (dVar 1) (dNil))) (dNil)))) (dCall d__law_draw (dCons (dVar 0) (dCons (dK (.int 9)) (dNil))))) (dSeq (dIte (bOf (dBin gEq (dVar 4) (dK (.int 0)))) (dRet (dBin gAddB (dSlG gSlA (dVar 1) (oNone) (oSome (dVar 3))) (dSlG gSlA (dVar 1) (oSome (dBin gAdd (dVar 3) (dK (.int 1)))) (oNone)))) (dNext)) (dSeq (dIte (bOf (dBin gEq (dVar 4) (dK (.int 1)))) (dRet (dBin gAddB (dSlG gSlA (dVar 1) (oNone) (oSome (dBin gAdd (dVar 3) (dK (.int 1))))) (dSlG gSlA (dVar 1) (oSome (dVar 3)) (oNone)))) (dNext)) (dSeq (dIte (bOf (dBin gEq (dVar 4) (dK (.int 2)))) (dRet (dBack (dVar 1))) (dNext)) (dSeq (dOwn (lList (dVar 1)) 2) (dSeq (dPut 2 (dVar 3) (dCall self_ (dCons (dVar 0) (dCons (dBin gIx (dVar 1) (dVar 3)) (dNil))))) (fun ρ p => (dRet (dIf (bOf (dApp (gIsT .list) (dCons (dVar 1) (dCons (dK (.ty "list")) dNil)))) (dVar 2) (dApp gTuple (dCons (dVar 2) (dNil))))) (rel 2 ρ) p))))))
theorem bent_eq (self_ : PF) : g__law_bent self_ = dSeq (dIte bentCond (bentThen self_) dNext) bentRest := rfl
theorem bent_then {self_ : PF} {k : Nat} (hk : 8 ≤ k) (hk2 : k ≤ 18) {d : D} (h : Vd k d) (hs : isSeqD d = true) (h0 : 0 < (seqD d).length) {p : Pot} (hp : Ip p)
    (ih : ∀ x ∈ seqD d, ∀ p, Ip p → ∃ x' p', self_ [.pot, x] p = some (x', p') ∧ Ip p' ∧ Vd (k + 4) x') : ∃ d' ρ' p', bentThen self_ [.sh .pot, .sh d, .no, .no, .no] p = some (.rt d', ρ', p') ∧ Ip p' ∧ Vd (k + 4) d' := by
  have hl := h.seq.1
  have hl2 := h.len
  have hv : ∀ x ∈ seqD d, Vd (k + 4) x := fun x hx => (h.seq.2 x hx).mono (by omega)
  obtain ⟨at_, p1, e1, a1, a2, hp1⟩ := dr_call (ρ := [.sh .pot, .sh d, .no, .no, .no]) (p := p) (f := dVar 0) (g := dApp gLen (dCons (dVar 1) (dNil))) (n := ((seqD d).length : Nat)) rfl (x_app rfl (g_lenS hs)) hp (by omega) (by omega)
  obtain ⟨way, p2, e2, b1, b2, hp2⟩ := dr_call (ρ := [.sh .pot, .sh d, .no, .no, .no]) (p := p1) (f := dVar 0) (g := dK (.int 9)) (n := 9) rfl rfl hp1 (by decide) (by decide)
  obtain ⟨i, rfl⟩ : ∃ i : Nat, at_ = i := ⟨at_.toNat, by omega⟩
  have hi : i < (seqD d).length := by omega
  have s1 : dPar 3 4 (dCall d__law_draw (dCons (dVar 0) (dCons (dApp gLen (dCons (dVar 1) (dNil))) (dNil)))) (dCall d__law_draw (dCons (dVar 0) (dCons (dK (.int 9)) (dNil)))) [.sh .pot, .sh d, .no, .no, .no] p = some (.nx, [.sh .pot, .sh d, .no, .sh (.int (i : Nat)), .sh (.int way)], p2) := by
    rw [ev_par, e1]
    show ((dCall d__law_draw (dCons (dVar 0) (dCons (dK (.int 9)) (dNil)))) _ p1).map _ = _
    rw [e2]; rfl
  have tst : ∀ j : Int, bOf (dBin gEq (dVar 4) (dK (.int j))) [.sh .pot, .sh d, .no, .sh (.int (i : Nat)), .sh (.int way)] p2 = some (decide (way = j), p2) := fun j => x_bOf (x_bin rfl rfl g_eq)
  have plus : dBin gAdd (dVar 3) (dK (.int 1)) [.sh .pot, .sh d, .no, .sh (.int (i : Nat)), .sh (.int way)] p2 = some (.int ((i + 1 : Nat) : Int), p2) := x_bin rfl rfl g_add
  have t0 := tst 0
  by_cases w0 : way = 0
  · rw [decide_eq_true w0] at t0
    refine ⟨mkS d ((seqD d).take i ++ (seqD d).drop (i + 1)), _, p2, x_seq s1 (x_seqR (x_iteT t0 (x_ret (x_bin (x_sl hs rfl rfl (x_oSome (f := dVar 3) rfl)) (x_sl hs rfl (x_oSome plus) rfl) ?_)))), hp2, mk_vd ?_ ?_⟩
    · rw [cut_to (by omega), cut_from (by omega)]
      exact mk_add d (by rw [List.length_take, List.length_drop]; omega)
    · rw [List.length_append, List.length_take, List.length_drop]; omega
    · intro x hx
      rcases List.mem_append.mp hx with hx | hx
      · exact hv x (List.mem_of_mem_take hx)
      · exact hv x (List.mem_of_mem_drop hx)
  rw [decide_eq_false w0] at t0
  have t1 := tst 1
  by_cases w1 : way = 1
  · rw [decide_eq_true w1] at t1
    refine ⟨mkS d ((seqD d).take (i + 1) ++ (seqD d).drop i), _, p2, x_seq s1 (x_seq (x_iteF t0 rfl) (x_seqR (x_iteT t1 (x_ret (x_bin (x_sl hs rfl rfl (x_oSome plus)) (x_sl hs rfl (x_oSome (f := dVar 3) rfl) rfl) ?_))))), hp2, mk_vd ?_ ?_⟩
    · rw [cut_to (by omega), cut_from (by omega)]
      exact mk_add d (by rw [List.length_take, List.length_drop]; omega)
    · rw [List.length_append, List.length_take, List.length_drop]; omega
    · intro x hx
      rcases List.mem_append.mp hx with hx | hx
      · exact hv x (List.mem_of_mem_take hx)
      · exact hv x (List.mem_of_mem_drop hx)
  rw [decide_eq_false w1] at t1
  have t2 := tst 2
  by_cases w2 : way = 2
  · rw [decide_eq_true w2] at t2
    refine ⟨mkS d (seqD d).reverse, _, p2, x_seq s1 (x_seq (x_iteF t0 rfl) (x_seq (x_iteF t1 rfl) (x_seqR (x_iteT t2 (x_ret ?_))))), hp2, mk_vd (by rw [List.length_reverse]; omega) fun x hx => hv x (List.mem_reverse.mp hx)⟩
    show (gBack d).map _ = _
    rw [mk_back hs]; rfl
  rw [decide_eq_false w2] at t2
  obtain ⟨x', p3, e3, hp3, hx'⟩ := ih (seqD d)[i] (List.getElem_mem hi) p2 hp2
  have own : dOwn (lList (dVar 1)) 2 [.sh .pot, .sh d, .no, .sh (.int (i : Nat)), .sh (.int way)] p2 = some (.nx, [.sh .pot, .sh d, .ow (seqD d), .sh (.int (i : Nat)), .sh (.int way)], p2) := x_own (x_lList rfl hs)
  have put : dPut 2 (dVar 3) (dCall self_ (dCons (dVar 0) (dCons (dBin gIx (dVar 1) (dVar 3)) (dNil)))) [.sh .pot, .sh d, .ow (seqD d), .sh (.int (i : Nat)), .sh (.int way)] p2 = some (.nx, [.sh .pot, .sh d, .ow ((seqD d).set i x'), .sh (.int (i : Nat)), .sh (.int way)], p3) := by
    have c : dCall self_ (dCons (dVar 0) (dCons (dBin gIx (dVar 1) (dVar 3)) (dNil))) [.sh .pot, .sh d, .ow (seqD d), .sh (.int (i : Nat)), .sh (.int way)] p2 = some (x', p3) :=
      x_call (x_cons rfl (x_cons (x_bin rfl rfl (by rw [g_ixS hs, at_nat, List.getElem?_eq_getElem hi])) rfl)) e3
    unfold dPut
    rw [c]
    show (ixN (seqD d).length (i : Int)).map _ = _
    rw [show ixN (seqD d).length (i : Int) = some i from by unfold ixN; rw [if_pos (Int.natCast_nonneg i), if_pos (by omega)]; rfl]
    rfl
  refine ⟨mkS d ((seqD d).set i x'), [.sh .pot, .sh d, .sh (.lst ((seqD d).set i x')), .sh (.int (i : Nat)), .sh (.int way)], p3, x_seq s1 (x_seq (x_iteF t0 rfl) (x_seq (x_iteF t1 rfl) (x_seq (x_iteF t2 rfl) (x_seq own (x_seq put ?_))))), hp3, mk_vd (by rw [List.length_set]; omega) fun x hx => ?_⟩
  · show dRet _ _ _ = _
    refine x_ret ?_
    cases d <;> first | rfl | cases hs
  · rcases List.mem_or_eq_of_mem_set hx with hx | rfl
    · exact hv x hx
    · exact hx'
theorem bent_ok {k : Nat} (hk : 8 ≤ k) (hk2 : k ≤ 18) : ∀ (n : Nat) (d : D), dpD d < n → Vd k d → nbD d = true → ∀ p, Ip p → ∃ d' p', d__law_bent n [.pot, d] p = some (d', p') ∧ Ip p' ∧ Vd (k + 4) d'
  | 0, d, h, _, _, _, _ => absurd h (by omega)
  | n + 1, d, hd, h, hb, p, hp => by
    have hbl : ∀ b, d ≠ .bl b := fun b z => by rw [z] at hb; cases hb
    have isTT := j_tt' (p := p) h.val (ρ := [.sh .pot, .sh d, .no, .no, .no]) (f := dVar 1) rfl
    have go : ∀ p1, Ip p1 → bentCond [.sh .pot, .sh d, .no, .no, .no] p = some (false, p1) → ∃ d' p', d__law_bent (n + 1) [.pot, d] p = some (d', p') ∧ Ip p' ∧ Vd (k + 4) d' := fun p1 hp1 hc => by
      obtain ⟨d', p', r1, r2, r3⟩ := bent_rest hk hk2 h hbl hp1
      exact ⟨d', p', x_def (N := n__law_bent) (s := g__law_bent (d__law_bent n)) (n := 2) (fr := false) (ds := [.pot, d]) rfl (x_seq (x_iteF hc rfl) r1), r2, r3⟩
    by_cases hs : isSeqD d = true
    · rw [hs] at isTT
      by_cases h0 : 0 < (seqD d).length
      · obtain ⟨i, p1, e1, a1, a2, hp1⟩ := dr_call (ρ := [.sh .pot, .sh d, .no, .no, .no]) (p := p) (f := dVar 0) (g := dK (.int 7)) (n := 7) rfl rfl hp (by decide) (by decide)
        have hc : bentCond [.sh .pot, .sh d, .no, .no, .no] p = some (decide (0 < i), p1) := by
          refine x_bAnd (x_bOf isTT) ?_
          rw [if_pos rfl]
          refine x_bAnd (x_bOf (x_bin (x_app rfl (g_lenS hs)) rfl g_rel)) ?_
          rw [decide_eq_true (show (0 : Int) < ((seqD d).length : Nat) by omega), if_pos rfl]
          exact x_bOf (x_bin e1 rfl g_rel)
        by_cases hi : 0 < i
        · rw [decide_eq_true hi] at hc
          obtain ⟨d', ρ', p', r1, r2, r3⟩ := bent_then (self_ := d__law_bent n) hk hk2 h hs h0 hp1 fun x hx p hp => bent_ok hk hk2 n x (dp_seq hd hx) (h.seq.2 x hx) (nb_seq hb x hx) p hp
          exact ⟨d', p', x_def (N := n__law_bent) (s := g__law_bent (d__law_bent n)) (n := 2) (fr := false) (ds := [.pot, d]) rfl (x_seqR (x_iteT hc r1)), r2, r3⟩
        · rw [decide_eq_false hi] at hc
          exact go p1 hp1 hc
      · refine go p hp (x_bAnd (x_bOf isTT) ?_)
        rw [if_pos rfl]
        refine x_bAnd (x_bOf (x_bin (x_app rfl (g_lenS hs)) rfl g_rel)) ?_
        rw [decide_eq_false (show ¬ (0 : Int) < ((seqD d).length : Nat) by omega)]; rfl
    · have hs' : isSeqD d = false := by simpa using hs
      rw [hs'] at isTT
      exact go p hp (x_bAnd (x_bOf isTT) rfl)
end K36
namespace K36
open PySem PySem.Spec PyProof.Rows L2 DL RK
structure Drawn (rows : List (List Int)) (ws : List (Int × Int)) (w : Nat) : Prop where
  ls : Ls rows w 18
  len : ws.length = rows.length
  wt : ∀ y ∈ ws, Wt y
theorem Drawn.rw {rows : List (List Int)} {ws : List (Int × Int)} {w : Nat} (d : Drawn rows ws w) : Rw rows ws w 18 := ⟨d.ls.wide, d.ls.w4, d.ls.bits, by decide, by decide, d.ls.many, d.len, fun y hy => (d.wt y hy).2.1⟩
theorem Drawn.nn {rows : List (List Int)} {ws : List (Int × Int)} {w : Nat} (d : Drawn rows ws w) : ∀ y ∈ ws, 0 ≤ y.1 := fun y hy => (d.wt y hy).2.2
def eH (ws : List (Int × Int)) : D := .lst (ws.map eW)
/-! ### texts that are held against one another -/
theorem gEq_str {a : Str} (ho : sOk a) : gEq (.str a) (.str a) = some (.bl true) := by
  have h : SeqAt.shaped (.str a) = true := by
    unfold sOk at ho
    simp [SeqAt.shaped, PyData.canLay0, PyData.depth, ho]
  unfold gEq eqD
  simp only [toPy, Option.bind_some]
  rw [if_pos ⟨h, h⟩]
  simp [PyData.eqv]
theorem gNe_str {a : Str} (ho : sOk a) : gNe (.str a) (.str a) = some (.bl false) := by
  have h : SeqAt.shaped (.str a) = true := by
    unfold sOk at ho
    simp [SeqAt.shaped, PyData.canLay0, PyData.depth, ho]
  unfold gNe eqD
  simp only [toPy, Option.bind_some]
  rw [if_pos ⟨h, h⟩]
  simp [PyData.eqv]
/-- a datum whose text can be told -/
structure Tell (d : D) : Prop where
  dp : dpD d ≤ 7
  ok : okT d = true
  sz : szD d ≤ 30000
theorem Tell.two {d : D} (h : Tell d) : isSeq (.lst [d, d]) = true ∧ dpD (.lst [d, d]) ≤ 8 ∧ okT (.lst [d, d]) = true ∧ szD (.lst [d, d]) ≤ 65536 := by
  obtain ⟨h1, h2, h3⟩ := h
  refine ⟨rfl, ?_, ?_, ?_⟩
  · show max (dpD d) (max (dpD d) 0) + 1 ≤ 8
    omega
  · show (okT d && (okT d && true)) = true
    rw [h2]; rfl
  · show szD d + 2 + (szD d + 2 + 0) + 2 ≤ 65536
    omega
theorem tell_bl (b : Bool) : Tell (.bl b) := ⟨by cases b <;> decide, by cases b <;> decide, by cases b <;> decide⟩
theorem tell_nat {n : Nat} (h : n ≤ 1000) : Tell (.int (n : Nat)) := by
  refine ⟨Nat.zero_le _, ?_, ?_⟩
  · unfold okT
    rw [decide_eq_true_iff, Int.natAbs_natCast]
    exact Nat.lt_of_le_of_lt h (by decide)
  · unfold szD
    rw [Int.natAbs_natCast]
    have := Nat.log2_le_self n
    omega
/-- repr([a, b]) != repr([c, d]) of one datum -/
theorem x_two {ρ : DEnv} {p : Pot} {f1 f2 g1 g2 : EF} {d : D} (t : Tell d) (h1 : f1 ρ p = some (d, p)) (h2 : f2 ρ p = some (d, p)) (h3 : g1 ρ p = some (d, p)) (h4 : g2 ρ p = some (d, p)) :
    bOf (dBin gNe (dRepr d_Rt_repr (dLst (dCons f1 (dCons f2 (dNil))))) (dRepr d_Rt_repr (dLst (dCons g1 (dCons g2 (dNil)))))) ρ p = some (false, p) := by
  obtain ⟨a1, a2, a3, a4⟩ := t.two
  exact x_bOf (x_bin (x_repr (x_lst (x_cons h1 (x_cons h2 rfl)) (by simp)) a1 a2 a3 a4) (x_repr (x_lst (x_cons h3 (x_cons h4 rfl)) (by simp)) a1 a2 a3 a4) (gNe_str (tx_ok a3).2.2))
/-! ### the values -/
noncomputable abbrev vals1 : LF := lLst (dCons (dVar 1) (dCons (dApp gTuple (dCons (eL (lComp [8] (lOf (dVar 1)) (tgName .al 8) (bTrue) (dApp gTuple (dCons (dVar 8) (dNil))))) (dNil))) (dCons (dBin gMul (dVar 1) (dK (.int 9))) (dCons (dLst (dCons (dBin gMul (dLst (dCons (dK (.int 0)) (dNil))) (dApp gLen (dCons (dBin gIx (dVar 1) (dK (.int 0))) (dNil)))) (dNil))) (dCons (dLst (dNil)) (dCons (dK .non) (dCons (dK (.int 0)) (dCons (dK (.str "l")) (dCons (dK .edict) (dCons (dLst (dCons (dLst (dNil)) (dNil))) (dCons (dBin gAdd (dVar 1) (dLst (dCons (dLst (dCons (dK (.int 1)) (dNil))) (dNil)))) (dCons (dBin gMul (dLst (dCons (dBin gIx (dVar 1) (dK (.int 0))) (dNil))) (dK (.int 8))) (dCons (dLst (dCons (dBin gMul (dLst (dCons (dK (.int 1)) (dNil))) (dK (.int 5))) (dNil))) (dNil))))))))))))))
noncomputable abbrev vals2 : LF := lLst (dCons (dVar 2) (dCons (dApp gTuple (dCons (dVar 2) (dNil))) (dCons (eL (lSl (lOf (dVar 2)) (oSome (dK (.int 1))) (oNone))) (dCons (dBin gAdd (dVar 2) (dLst (dCons (dK (.int 0)) (dNil)))) (dCons (dK .non) (dCons (dK (.int 0)) (dCons (dLst (dNil)) (dCons (dBin gMul (dLst (dCons (dNeg (dK (.int 1))) (dNil))) (dVar 3)) (dCons (dBin gMul (dLst (dCons (dK (.bl true)) (dNil))) (dVar 3)) (dCons (dBin gMul (dLst (dCons (dK .non) (dNil))) (dVar 3)) (dCons (dK .edict) (dCons (dK (.str "w")) (dNil)))))))))))))
noncomputable abbrev vals3 : LF := lLst (dCons (dLst (dNil)) (dCons (dTup (dNil)) (dCons (dLst (dCons (dK (.int 0)) (dNil))) (dCons (dLst (dCons (dVar 3) (dNil))) (dCons (dLst (dCons (dBin gSub (dVar 3) (dK (.int 1))) (dNil))) (dCons (dLst (dCons (dK (.int 0)) (dCons (dK (.int 0)) (dNil)))) (dCons (dLst (dCons (dK (.int 1)) (dCons (dK (.int 0)) (dNil)))) (dCons (dLst (dCons (dK (.bl true)) (dNil))) (dCons (dLst (dCons (dK (.bl false)) (dNil))) (dCons (dLst (dCons (dK .non) (dNil))) (dCons (eL (lListRg (dVar 3))) (dCons (dLst (dCons (dNeg (dK (.int 1))) (dNil))) (dCons (dK .non) (dCons (dK (.int 0)) (dCons (dK (.str "0")) (dCons (dK .edict) (dNil)))))))))))))))))
def envV (L Hd : D) (n : Int) (v : Slot) (a b c : Option D) : DEnv := [.sh .pot, .sh L, .sh Hd, .sh (.int n), v, jS a, jS b, jS c, .no]
noncomputable abbrev valBody (due c1 c2 : EF) : SF := dSeq (dAsg due (tgName .al 7)) (dIte (bOf (dBin gNe (dRepr d_Rt_repr (dLst (dCons c1 (dCons c2 (dNil))))) (dRepr d_Rt_repr (dLst (dCons (dVar 7) (dCons (dVar 7) (dNil))))))) (dRet (dK (.bl false))) (dNext))
theorem val_for {L Hd : D} {n : Int} {due c1 c2 : EF} {vs : List D} {p : Pot} (hv : ∀ x ∈ vs, ∃ b : Bool, ∀ a c, due (envV L Hd n (.sh (.lst vs)) a (some x) c) p = some (.bl b, p) ∧ c1 (envV L Hd n (.sh (.lst vs)) a (some x) c) p = some (.bl b, p) ∧ c2 (envV L Hd n (.sh (.lst vs)) a (some x) c) p = some (.bl b, p)) (a b c : Option D) :
    ∃ b' c', dFor (lOf (dVar 4)) (tgName .al 6) (valBody due c1 c2) (envV L Hd n (.sh (.lst vs)) a b c) p = some (.nx, envV L Hd n (.sh (.lst vs)) a b' c', p) := by
  obtain ⟨j, hj⟩ := forL (t := tgName .al 6) (g := valBody due c1 c2) (p := p) (fun x : D => x) (fun (_ : Unit) (j : Option D × Option D) => envV L Hd n (.sh (.lst vs)) a j.1 j.2) (fun _ _ => ()) (fun _ => True) (xs := vs) (s := ()) (j := (b, c)) trivial fun x hx s j _ => by
    obtain ⟨e, he⟩ := hv x hx
    obtain ⟨h1, _⟩ := he a j.2
    obtain ⟨_, h2, h3⟩ := he a (some (.bl e))
    exact ⟨trivial, envV L Hd n (.sh (.lst vs)) a (some x) j.2, (some x, some (.bl e)), rfl, x_seq (x_asgN h1) (x_iteF (p1 := p) (x_two (tell_bl e) h2 h3 rfl rfl) rfl)⟩
  rw [show vs.map (fun x : D => x) = vs from List.map_id _] at hj
  exact ⟨j.1, j.2, x_for (p1 := p) rfl hj⟩
/-- six times one thing otherwise -/
theorem bent_for {L Hd : D} {n : Int} {vs : List D} {p : Pot} {i : Nat} {d : D} (hd : ∀ v a b c, dVar i (envV L Hd n v a b c) = fun p => some (d, p)) (h1 : dpD d < 8) (h2 : Vd 18 d) (h3 : nbD d = true) (hvs : ∀ x ∈ vs, Vd 22 x) (hl : vs.length ≤ 100) (hp : Ip p) (a b c : Option D) :
    ∃ us a' p', dFor (lRange1 (dCons (dK (.int 6)) (dNil))) (tgName .al 5) (dAppend 4 (dCall (d__law_bent 8) (dCons (dVar 0) (dCons (dVar i) (dNil))))) (envV L Hd n (.ow vs) a b c) p = some (.nx, envV L Hd n (.ow us) a' b c, p') ∧ Ip p' ∧ ∀ x ∈ us, Vd 22 x := by
  obtain ⟨us, a', p', e, ⟨q1, q2⟩, q3⟩ := forE (t := tgName .al 5) (g := dAppend 4 (dCall (d__law_bent 8) (dCons (dVar 0) (dCons (dVar i) (dNil))))) (fun k : Nat => D.int (k : Nat)) (fun (us : List D) (a' : Option D) => envV L Hd n (.ow us) a' b c) (fun k us => (∀ x ∈ us, Vd 22 x) ∧ us.length = vs.length + k) (xs := List.range 6) (k := 0) (s := vs) (j := a) (p := p) ⟨hvs, rfl⟩ hp fun k x hx us a' p hI hp => by
    have hk : k < 6 := by have := (List.getElem?_eq_some_iff.mp hx).1; simpa using this
    obtain ⟨d', p', r1, r2, r3⟩ := bent_ok (k := 18) (by decide) (by decide) 8 d h1 h2 h3 p hp
    refine ⟨_, us ++ [d'], some (.int (x : Nat)), p', rfl, ?_, ⟨fun y hy => ?_, by rw [List.length_append, hI.2]; simp; omega⟩, r2⟩
    · show (if us.length < 65536 then _ else _) = _
      rw [if_pos (by rw [hI.2]; omega)]
      have c1 : dCall (d__law_bent 8) (dCons (dVar 0) (dCons (dVar i) (dNil))) (envV L Hd n (.ow us) (some (.int (x : Nat))) b c) p = some (d', p') := x_call (x_cons rfl (x_cons (congrFun (hd _ _ _ _) p) rfl)) r1
      show (dCall (d__law_bent 8) (dCons (dVar 0) (dCons (dVar i) (dNil))) (envV L Hd n (.ow us) (some (.int (x : Nat))) b c) p).map _ = _
      rw [c1]; rfl
    · rcases List.mem_append.mp hy with hy | hy
      · exact hI.1 y hy
      · rw [List.mem_singleton.mp hy]; exact r3
  refine ⟨us, a', p', x_for (p1 := p) ((x_range1 rfl (by decide)).trans (by rw [show (6 : Int).toNat = 6 from rfl, dInts_map])) e, q3, q1⟩
section
variable {rows : List (List Int)} {ws : List (Int × Int)} {w : Nat} (G : Drawn rows ws w) {p : Pot}
include G
theorem q_is_lists {d : D} {k : Nat} (hk : 0 < k) (hk2 : k ≤ 60) (h : Vd k d) : d_is_lists [d] p = some (.bl (areListsD d), p) := x_def rfl (x_ret (x_call rfl (j_are_lists hk hk2 h)))
theorem q_is_weights {d : D} {k : Nat} (hk : 0 < k) (h : Vd k d) : d_is_weights [eR rows, d] p = some (.bl (areWeights (rows.length : Nat) d), p) :=
  x_def rfl (x_ret (x_call (x_cons (x_app (x_cons (x_call rfl (q_want_lists G.ls)) rfl) (len_rowsL G.ls)) rfl) (j_are_weights hk h)))
theorem q_is_lot {d : D} {k : Nat} (h : Vd k d) : d_is_lot [eR rows, d] p = some (.bl (isLotD (rows.length : Nat) d), p) :=
  x_def rfl (x_ret (x_call (x_cons (x_app (x_cons (x_call rfl (q_want_lists G.ls)) rfl) (len_rowsL G.ls)) rfl) (j_is_lot_of h)))
theorem vd_handed : Vd 18 (eH ws) ∧ nbD (eH ws) = true ∧ dpD (eH ws) < 8 := by
  have hm := G.ls.many
  have hl := G.len
  refine ⟨vd_lst (by rw [List.length_map]; omega) fun x hx => ?_, ?_, ?_⟩
  · obtain ⟨y, hy, rfl⟩ := List.mem_map.mp hx
    obtain ⟨h1, h2, h3⟩ := G.wt y hy
    unfold eW
    split
    · unfold Vd; exact h2.top.mono (by decide)
    · unfold Vd; exact ⟨h1.pos, h1.cop, h2.top.mono (by decide), h2.bot.mono (by decide)⟩
  · show nbA (ws.map eW) = true
    have : ∀ l : List (Int × Int), nbA (l.map eW) = true := by
      intro l
      induction l with
      | nil => rfl
      | cons y l ih =>
        show (nbD (eW y) && nbA (l.map eW)) = true
        rw [ih, Bool.and_true]
        unfold eW
        split <;> rfl
    exact this ws
  · show dpAll (ws.map eW) + 1 < 8
    have := dp_map (f := eW) (n := 0) (l := ws) fun y _ => by unfold eW; split <;> exact Nat.le_refl _
    omega
theorem vd_lists : Vd 18 (eR rows) ∧ nbD (eR rows) = true ∧ dpD (eR rows) < 8 := by
  refine ⟨vd_rows G.ls (.inl rfl), ?_, ?_⟩
  · show nbA (rows.map eI) = true
    have h1 : ∀ l : List Int, nbA (l.map D.int) = true := by
      intro l
      induction l with
      | nil => rfl
      | cons y l ih => exact ih
    have : ∀ l : List (List Int), nbA (l.map eI) = true := by
      intro l
      induction l with
      | nil => rfl
      | cons y l ih =>
        show (nbA (y.map D.int) && nbA (l.map eI)) = true
        rw [ih, h1]; rfl
    exact this rows
  · have := (pl_eR rows).2
    omega
theorem rep_one {α : Type} (x : α) (n : Nat) : (List.replicate n [x]).flatten = List.replicate n x := by
  induction n with
  | zero => rfl
  | succ n ih => rw [List.replicate_succ, List.replicate_succ, List.flatten_cons, ih]; rfl
omit G in
theorem mul_one_lst {x : D} {n : Nat} (h : n ≤ 1000) : gMul (.lst [x]) (.int (n : Nat)) = some (.lst (List.replicate n x)) := by
  show (if _ then _ else _) = _
  rw [if_pos ⟨by omega, by omega, by simp; omega⟩, Int.toNat_natCast]
  congr 2
  induction n with
  | zero => rfl
  | succ n ih => rw [List.replicate_succ, List.replicate_succ, List.flatten_cons, ih (by omega)]; rfl
omit G in
theorem vd_rep {x : D} {n k : Nat} (hx : Vd k x) (h : n ≤ min 1000 (10 * k)) : Vd k (.lst (List.replicate n x)) := vd_lst (by rw [List.length_replicate]; exact h) fun y hy => by rw [(List.mem_replicate.mp hy).2]; exact hx
omit G in
theorem vd_small {i : Int} (h : i.natAbs < 100) : Vd 22 (.int i) := by
  unfold Vd Bt
  exact Nat.lt_trans h (by decide)
theorem q_values {p : Pot} (hp : Ip p) : ∃ p', d__law_values_right [.pot, eR rows, eH ws] p = some (.bl true, p') ∧ Ip p' := by
  have hm := G.ls.many
  have h1 := G.ls.one
  have hw1 := G.ls.w1
  have hw4 := G.ls.w4
  have hlen := G.len
  obtain ⟨vl, nl, dl⟩ := vd_lists G
  obtain ⟨vh, nh, dh⟩ := vd_handed G
  have vl22 : Vd 22 (eR rows) := vl.mono (by decide)
  have vh22 : Vd 22 (eH ws) := vh.mono (by decide)
  have non : Vd 22 .non := by unfold Vd; trivial
  have edi : Vd 22 .edict := by unfold Vd; trivial
  have blt : ∀ b, Vd 22 (.bl b) := fun b => by unfold Vd; trivial
  have strv : ∀ x : Str, x.length ≤ 10 → Vd 22 (.str x) := fun x hx => by unfold Vd; exact hx
  have lst0 : Vd 22 (.lst []) := vd_lst (Nat.zero_le _) fun x hx => absurd hx (by simp)
  have tup0 : Vd 22 (.tup []) := vd_tup (Nat.zero_le _) fun x hx => absurd hx (by simp)
  have one : ∀ x, Vd 22 x → Vd 22 (.lst [x]) := fun x hx => vd_lst (by simp) fun y hy => by rw [List.mem_singleton.mp hy]; exact hx
  have two : ∀ x y, Vd 22 x → Vd 22 y → Vd 22 (.lst [x, y]) := fun x y hx hy => vd_lst (by simp) fun z hz => by
    simp only [List.mem_cons, List.not_mem_nil, or_false] at hz
    rcases hz with rfl | rfl
    · exact hx
    · exact hy
  have vrow : ∀ r ∈ rows, Vd 22 (eI r) := fun r hr => vl22.seq.2 _ (List.mem_map_of_mem hr)
  obtain ⟨r0, rs, hrows⟩ : ∃ r rs, rows = r :: rs := by
    cases h : rows with
    | nil => rw [h] at h1; simp at h1
    | cons r rs => exact ⟨r, rs, rfl⟩
  have m0 : r0 ∈ rows := by rw [hrows]; exact List.mem_cons_self
  have a0 : gIx (eR rows) (.int 0) = some (eI r0) := by
    show atI (rows.map eI) 0 = _
    rw [at_0, hrows]; rfl
  have len0 : gLen [eI r0] = some (.int (w : Nat)) := by
    show some (D.int (r0.map D.int).length) = _
    rw [List.length_map, G.ls.wide r0 m0]
  have s1 : dAsg (dApp gLen (dCons (dVar 1) (dNil))) (tgName .al 3) (startD n__law_values_right false [.pot, eR rows, eH ws]) p = some (.nx, [.sh .pot, .sh (eR rows), .sh (eH ws), .sh (.int (rows.length : Nat)), .no, .no, .no, .no, .no], p) := x_asgN (x_app rfl (len_rowsL G.ls))
  -- lists
  have tups : ∀ ρ : DEnv, ρ[1]? = some (.sh (eR rows)) → noOw ρ [8] = true → ρ.length = 9 → dApp gTuple (dCons (eL (lComp [8] (lOf (dVar 1)) (tgName .al 8) (bTrue) (dApp gTuple (dCons (dVar 8) (dNil))))) (dNil)) ρ p = some (.tup (rows.map fun r => D.tup (r.map D.int)), p) := fun ρ h1 hn hl => by
    have hv : dVar 1 ρ p = some (eR rows, p) := by rw [ev_var, h1]
    refine x_app (x_cons (x_eL (x_comp (es := rows.map fun r => D.tup (r.map D.int)) hn (x_lOf hv) (compM eI (fun r => D.tup (r.map D.int)) fun r hr => ⟨_, rfl, x_app (x_cons (?_ : _ = some (eI r, p)) rfl) rfl⟩) (by rw [List.length_map]; omega))) rfl) rfl
    rw [ev_var, List.getElem?_set]
    simp [hl, wipeD]
  have v1 : ∃ ds, vals1 (envV (eR rows) (eH ws) (rows.length : Nat) .no none none none) p = some (ds, p) ∧ (∀ x ∈ ds, Vd 22 x) ∧ ds.length = 13 := by
    have e3 : gMul (eR rows) (.int 9) = some (.lst (List.replicate 9 (rows.map eI)).flatten) := if_pos ⟨by decide, by decide, by rw [List.length_map]; simp; omega⟩
    have e11 : gAdd (eR rows) (.lst [.lst [.int 1]]) = some (.lst (rows.map eI ++ [.lst [.int 1]])) := if_pos (by rw [List.length_map]; simp; omega)
    refine ⟨[eR rows, .tup (rows.map fun r => D.tup (r.map D.int)), .lst (List.replicate 9 (rows.map eI)).flatten, .lst [.lst (List.replicate w (.int 0))], .lst [], .non, .int 0, .str "l", .edict, .lst [.lst []], .lst (rows.map eI ++ [.lst [.int 1]]), .lst (List.replicate 8 (eI r0)), .lst [.lst (List.replicate 5 (.int 1))]], ?_, ?_, rfl⟩
    · exact x_lLst (x_cons rfl (x_cons (tups _ rfl rfl rfl) (x_cons (x_bin rfl rfl e3) (x_cons (x_lst (x_cons (x_bin (x_lst rfl (by simp)) (x_app (x_cons (x_bin rfl rfl a0) rfl) len0) (mul_one_lst (by omega))) rfl) (by simp))
        (x_cons rfl (x_cons rfl (x_cons rfl (x_cons rfl (x_cons rfl (x_cons rfl (x_cons (x_bin rfl rfl e11) (x_cons (x_bin (x_lst (x_cons (x_bin rfl rfl a0) rfl) (by simp)) rfl (mul_one_lst (n := 8) (by decide))) (x_cons (x_lst (x_cons (x_bin (x_lst rfl (by simp)) rfl (mul_one_lst (n := 5) (by decide))) rfl) (by simp)) rfl))))))))))))) (by simp)
    · intro x hx
      simp only [List.mem_cons, List.not_mem_nil, or_false] at hx
      rcases hx with rfl | rfl | rfl | rfl | rfl | rfl | rfl | rfl | rfl | rfl | rfl | rfl | rfl
      · exact vl22
      · refine vd_tup (by rw [List.length_map]; omega) fun y hy => ?_
        obtain ⟨r, hr, rfl⟩ := List.mem_map.mp hy
        have := (vrow r hr).seq.2
        exact vd_tup (by rw [List.length_map, G.ls.wide r hr]; omega) this
      · refine vd_lst (by simp; omega) fun y hy => ?_
        obtain ⟨l, hl, hy⟩ := List.mem_flatten.mp hy
        rw [(List.mem_replicate.mp hl).2] at hy
        exact vl22.seq.2 y hy
      · exact one _ (vd_rep (vd_small (by decide)) (by omega))
      · exact lst0
      · exact non
      · exact vd_small (by decide)
      · exact strv _ (by decide)
      · exact edi
      · exact one _ lst0
      · refine vd_lst (by simp; omega) fun y hy => ?_
        rcases List.mem_append.mp hy with hy | hy
        · exact vl22.seq.2 y hy
        · rw [List.mem_singleton.mp hy]
          exact one _ (vd_small (by decide))
      · exact vd_rep (vrow r0 m0) (by decide)
      · exact one _ (vd_rep (vd_small (by decide)) (by decide))
  have v2 : ∀ v a b c p, ∃ ds, vals2 (envV (eR rows) (eH ws) (rows.length : Nat) v a b c) p = some (ds, p) ∧ (∀ x ∈ ds, Vd 22 x) ∧ ds.length = 12 := fun v a b c p => by
    have e4 : gAdd (eH ws) (.lst [.int 0]) = some (.lst (ws.map eW ++ [.int 0])) := if_pos (by rw [List.length_map]; simp; omega)
    refine ⟨[eH ws, .tup (ws.map eW), .lst ((ws.map eW).drop 1), .lst (ws.map eW ++ [.int 0]), .non, .int 0, .lst [], .lst (List.replicate rows.length (.int (-1))), .lst (List.replicate rows.length (.bl true)), .lst (List.replicate rows.length .non), .edict, .str "w"], ?_, ?_, rfl⟩
    · exact x_lLst (x_cons rfl (x_cons rfl (x_cons (x_eL (x_slFrom (i := 1) (ds := ws.map eW) rfl rfl (by rw [List.length_map]; omega))) (x_cons (x_bin rfl rfl e4) (x_cons rfl (x_cons rfl (x_cons rfl (x_cons (x_bin (x_lst rfl (by simp)) rfl (mul_one_lst (by omega)))
        (x_cons (x_bin (x_lst rfl (by simp)) rfl (mul_one_lst (by omega))) (x_cons (x_bin (x_lst rfl (by simp)) rfl (mul_one_lst (by omega))) (x_cons rfl (x_cons rfl rfl)))))))))))) (by simp)
    · intro x hx
      simp only [List.mem_cons, List.not_mem_nil, or_false] at hx
      rcases hx with rfl | rfl | rfl | rfl | rfl | rfl | rfl | rfl | rfl | rfl | rfl | rfl
      · exact vh22
      · exact vd_tup (by rw [List.length_map]; omega) vh22.seq.2
      · exact vd_lst (by rw [List.length_drop, List.length_map]; omega) fun y hy => vh22.seq.2 y (List.mem_of_mem_drop hy)
      · refine vd_lst (by simp; omega) fun y hy => ?_
        rcases List.mem_append.mp hy with hy | hy
        · exact vh22.seq.2 y hy
        · rw [List.mem_singleton.mp hy]
          exact vd_small (by decide)
      · exact non
      · exact vd_small (by decide)
      · exact lst0
      · exact vd_rep (vd_small (by decide)) (by omega)
      · exact vd_rep (blt true) (by omega)
      · exact vd_rep non (by omega)
      · exact edi
      · exact strv _ (by decide)
  have v3 : ∀ v a b c p, ∃ ds, vals3 (envV (eR rows) (eH ws) (rows.length : Nat) v a b c) p = some (ds, p) ∧ ∀ x ∈ ds, Vd 22 x ∧ (seqD x).length ≤ 60 := fun v a b c p => by
    refine ⟨[.lst [], .tup [], .lst [.int 0], .lst [.int (rows.length : Nat)], .lst [.int ((rows.length : Nat) - 1)], .lst [.int 0, .int 0], .lst [.int 1, .int 0], .lst [.bl true], .lst [.bl false], .lst [.non], .lst (dInts 0 rows.length), .lst [.int (-1)], .non, .int 0, .str "0", .edict], ?_, ?_⟩
    · have er : lListRg (dVar 3) (envV (eR rows) (eH ws) (rows.length : Nat) v a b c) p = some (dInts 0 rows.length, p) := by
        unfold lListRg
        rw [show dVar 3 (envV (eR rows) (eH ws) (rows.length : Nat) v a b c) p = some (.int (rows.length : Nat), p) from rfl]
        simp only [Option.bind_some]
        rw [if_pos ⟨by omega, by omega⟩, Int.toNat_natCast]
      exact x_lLst (x_cons rfl (x_cons rfl (x_cons rfl (x_cons rfl (x_cons rfl (x_cons rfl (x_cons rfl (x_cons rfl (x_cons rfl (x_cons rfl (x_cons (x_eL er) (x_cons rfl (x_cons rfl (x_cons rfl (x_cons rfl (x_cons rfl rfl)))))))))))))))) (by simp)
    · intro x hx
      simp only [List.mem_cons, List.not_mem_nil, or_false] at hx
      rcases hx with rfl | rfl | rfl | rfl | rfl | rfl | rfl | rfl | rfl | rfl | rfl | rfl | rfl | rfl | rfl | rfl
      · exact ⟨lst0, by decide⟩
      · exact ⟨tup0, by decide⟩
      · exact ⟨one _ (vd_small (by decide)), by decide⟩
      · exact ⟨one _ (vd_small (by omega)), by show (1 : Nat) ≤ 60; decide⟩
      · exact ⟨one _ (vd_small (by omega)), by show (1 : Nat) ≤ 60; decide⟩
      · exact ⟨two _ _ (vd_small (by decide)) (vd_small (by decide)), by decide⟩
      · exact ⟨two _ _ (vd_small (by decide)) (vd_small (by decide)), by decide⟩
      · exact ⟨one _ (blt true), by decide⟩
      · exact ⟨one _ (blt false), by decide⟩
      · exact ⟨one _ non, by decide⟩
      · have hl : (dInts 0 rows.length).length = rows.length := by unfold dInts; rw [List.length_map, List.length_range]
        refine ⟨vd_lst (by omega) fun y hy => ?_, by show (dInts 0 rows.length).length ≤ 60; omega⟩
        obtain ⟨i, hi, rfl⟩ := List.mem_map.mp hy
        have : i < rows.length := by simpa using hi
        exact vd_small (by omega)
      · exact ⟨one _ (vd_small (by decide)), by decide⟩
      · exact ⟨non, by decide⟩
      · exact ⟨vd_small (by decide), by decide⟩
      · exact ⟨strv _ (by decide), by decide⟩
      · exact ⟨edi, by decide⟩
  obtain ⟨ds1, e1, f1, l1⟩ := v1
  obtain ⟨us1, a1, p1, e2, hp1, f2⟩ := bent_for (L := eR rows) (Hd := eH ws) (n := (rows.length : Nat)) (i := 1) (vs := ds1) (fun v a b c => rfl) dl vl nl f1 (by omega) hp none none none
  obtain ⟨b1, c1, e3⟩ := val_for (L := eR rows) (Hd := eH ws) (n := (rows.length : Nat)) (due := dCall d__law_are_lists (dCons (dVar 6) (dNil))) (c1 := dCall d_is_lists (dCons (dVar 6) (dNil))) (c2 := dKw d_is_lists 0 1 [0] dNil (dCons (dVar 6) (dNil))) (vs := us1) (p := p1) (fun x hx => ⟨areListsD x, fun a c => by
    have q1 := q_is_lists (p := p1) G (by decide) (by decide) (f2 x hx)
    exact ⟨x_call rfl ((j_law_are_lists (by decide) (f2 x hx)).trans (by rw [lists_same])), x_call rfl q1, q1⟩⟩) a1 none none
  obtain ⟨ds2, e4, f4, l4⟩ := v2 (.sh (.lst us1)) a1 b1 c1 p1
  obtain ⟨us2, a2, p2, e5, hp2, f5⟩ := bent_for (L := eR rows) (Hd := eH ws) (n := (rows.length : Nat)) (i := 2) (vs := ds2) (fun v a b c => rfl) dh vh nh f4 (by omega) hp1 a1 b1 c1
  obtain ⟨b2, c2, e6⟩ := val_for (L := eR rows) (Hd := eH ws) (n := (rows.length : Nat)) (due := dCall d__law_are_weights (dCons (dVar 3) (dCons (dVar 6) (dNil)))) (c1 := dCall d_is_weights (dCons (dVar 1) (dCons (dVar 6) (dNil)))) (c2 := dKw d_is_weights 0 2 [1, 0] dNil (dCons (dVar 6) (dCons (dVar 1) (dNil)))) (vs := us2) (p := p2) (fun x hx => ⟨areWeights (rows.length : Nat) x, fun a c => by
    have q1 := q_is_weights (p := p2) G (by decide) (f5 x hx)
    exact ⟨x_call rfl (j_law_are_weights (by decide) (f5 x hx)), x_call rfl q1, q1⟩⟩) a2 b1 c1
  obtain ⟨ds3, e7, f7⟩ := v3 (.sh (.lst us2)) a2 b2 c2 p2
  obtain ⟨b3, c3, e8⟩ := val_for (L := eR rows) (Hd := eH ws) (n := (rows.length : Nat)) (due := dCall d__law_is_lot (dCons (dVar 3) (dCons (dVar 6) (dNil)))) (c1 := dCall d_is_lot (dCons (dVar 1) (dCons (dVar 6) (dNil)))) (c2 := dKw d_is_lot 0 2 [1, 0] dNil (dCons (dVar 6) (dCons (dVar 1) (dNil)))) (vs := ds3) (p := p2) (fun x hx => ⟨isLotD (rows.length : Nat) x, fun a c => by
    obtain ⟨g1, g2⟩ := f7 x hx
    have q1 := q_is_lot (p := p2) G g1
    exact ⟨x_call rfl (j_law_is_lot g1 g2), x_call rfl q1, q1⟩⟩) a2 b2 c2
  exact ⟨p2, x_def rfl (x_seq s1 (x_seq (x_own e1) (x_seq e2 (x_seq e3 (x_seq (x_own e4) (x_seq e5 (x_seq e6 (x_seq (x_own e7) (x_seq e8 (x_ret rfl)))))))))), hp2⟩
end
end K36
namespace K36
open PySem PySem.Spec PyProof.Rows L2 DL RK
theorem x_bOrF {c c' : BF} {ρ : DEnv} {p p1 : Pot} {e : Option (Bool × Pot)} (h : c ρ p = some (false, p1)) (h2 : c' ρ p1 = e) : bOr c c' ρ p = e := by
  unfold bOr; rw [h]; exact h2
/-! ### the whole lot -/
def allL (n : Nat) : List Int := (List.range n).map fun i => ((i : Nat) : Int)
theorem all_last : ∀ n, (lotsOf n).getLast? = some (allL n)
  | 0 => rfl
  | n + 1 => by
    show (lotsOf n ++ (lotsOf n).map fun l => l ++ [(n : Int)]).getLast? = _
    have h := all_last n
    rw [List.getLast?_append, List.getLast?_map, h]
    show some (allL n ++ [(n : Int)]) = some (allL (n + 1))
    unfold allL
    rw [List.range_succ, List.map_append]; rfl
theorem at_last {l : List D} (h : l ≠ []) : atI l (-1) = l.getLast? := by
  have hl : 0 < l.length := List.length_pos_iff.mpr h
  have e : ixN l.length (-1) = some (l.length - 1) := by
    unfold ixN
    simp
    omega
  unfold atI
  rw [e, List.getLast?_eq_getElem?]; rfl
theorem all_mem (n : Nat) : allL n ∈ lotsOf n := List.mem_of_getLast? (all_last n)
theorem sel_all {α : Type} {l : List α} {d : α} {n : Nat} (h : l.length = n) : sel l d (allL n) = l := by
  unfold sel allL
  rw [List.map_map]
  refine List.ext_getElem? fun i => ?_
  rw [List.getElem?_map]
  by_cases hi : i < n
  · rw [List.getElem?_range hi]
    simp [List.getD_eq_getElem?_getD, List.getElem?_eq_getElem (h ▸ hi)]
  · rw [List.getElem?_eq_none (by simpa using hi), List.getElem?_eq_none (by omega)]; rfl
section
variable {rows : List (List Int)} {ws : List (Int × Int)} {w : Nat} (G : Drawn rows ws w)
include G
theorem exc_all : excL rows ws (allL rows.length) = (0, 1) := by
  obtain ⟨h1, h2⟩ := lot_ok G.rw (all_mem rows.length)
  refine nf_uniq (excL_nf G.rw h1 h2) nf_zero ?_
  have s2 := all_sum G.rw
  have r3 := rb_nat (rank_all G.rw)
  rw [← exc_eq G.rw h1 h2]
  unfold excP
  rw [sel_all G.len, sel_all rfl, fsub_val (ftimes_bt s2 r3).pos (ftimes_bt s2 r3).pos, val_int]
  have e2 : ((0 : Int) : Rat) = 0 := rfl
  rw [e2]
  grind
/-! ### texts -/
theorem tell_bases : Tell (.lst (sortR (basesL rows))) := by
  obtain ⟨T, e, hT, hl⟩ := sortR_ok (basesL rows)
  have hb : ∀ r ∈ T, r.length ≤ 8 ∧ ∀ x ∈ r, Bt 3 x := fun r hr => by
    have hm := (List.mem_filter.mp (hT r hr)).1
    obtain ⟨h1, h2⟩ := lot_ok G.rw hm
    refine ⟨h2, fun x hx => ?_⟩
    have := h1 x hx
    have hm := G.ls.many
    unfold Bt
    omega
  have hmany := bases_many G.rw
  have s1 : szAll (T.map eI) ≤ T.length * (50 + 2) := szAll_map fun r hr => by
    have := szI (n := 8) (k := 3) (by decide) (hb r hr).2 (hb r hr).1
    omega
  have o1 : okAll (T.map eI) = true := okAll_map fun r hr => okI (k := 3) (by decide) (hb r hr).2
  have d1 : dpAll (T.map eI) ≤ 1 := dp_map fun r _ => (pl_eI r).2
  rw [e]
  refine ⟨by show dpAll (T.map eI) + 1 ≤ 7; omega, o1, ?_⟩
  show szAll (T.map eI) + 2 ≤ 30000
  have : T.length * (50 + 2) ≤ 256 * 52 := Nat.mul_le_mul (by omega) (by decide)
  omega
theorem ok_shown : isSeq (.lst [eR rows, eH ws]) = true ∧ dpD (.lst [eR rows, eH ws]) ≤ 8 ∧ okT (.lst [eR rows, eH ws]) = true ∧ szD (.lst [eR rows, eH ws]) ≤ 65536 := by
  have hm := G.ls.many
  have hw : ∀ y ∈ ws, okT (eW y) = true ∧ szD (eW y) ≤ 38 ∧ dpD (eW y) = 0 := fun y hy => by
    obtain ⟨_, hb, _⟩ := G.wt y hy
    have l1 := hb.top.log (by decide)
    have l2 := hb.bot.log (by decide)
    unfold eW
    split
    · exact ⟨decide_eq_true (show y.1.natAbs < 2 ^ 190 from hb.top.mono (by decide)), by show y.1.natAbs.log2 + 2 ≤ 38; omega, rfl⟩
    · refine ⟨?_, by show 2 * max y.1.natAbs.log2 y.2.natAbs.log2 + 22 ≤ 38; omega, rfl⟩
      show (decide _ && decide _) = true
      rw [decide_eq_true (show y.1.natAbs < 2 ^ 190 from hb.top.mono (by decide)), decide_eq_true (show y.2.natAbs < 2 ^ 190 from hb.bot.mono (by decide))]; rfl
  have s1 : szAll (rows.map eI) ≤ rows.length * (86 + 2) := szAll_map fun r hr => by
    have := szI (n := 4) (k := 18) (by decide) (G.ls.bits r hr) (by rw [G.ls.wide r hr]; exact G.ls.w4)
    omega
  have s2 : szAll (ws.map eW) ≤ ws.length * (38 + 2) := szAll_map fun y hy => (hw y hy).2.1
  have o1 : okAll (rows.map eI) = true := okAll_map fun r hr => okI (k := 18) (by decide) (G.ls.bits r hr)
  have o2 : okAll (ws.map eW) = true := okAll_map fun y hy => (hw y hy).1
  have d1 : dpAll (rows.map eI) ≤ 1 := dp_map fun r _ => (pl_eI r).2
  have d2 : dpAll (ws.map eW) ≤ 0 := dp_map fun y hy => by rw [(hw y hy).2.2]; exact Nat.le_refl _
  refine ⟨rfl, ?_, ?_, ?_⟩
  · show max (dpAll (rows.map eI) + 1) (max (dpAll (ws.map eW) + 1) 0) + 1 ≤ 8
    omega
  · show (okAll (rows.map eI) && (okAll (ws.map eW) && true)) = true
    rw [o1, o2]; rfl
  · show (szAll (rows.map eI) + 2) + 2 + ((szAll (ws.map eW) + 2) + 2 + 0) + 2 ≤ 65536
    have e := G.len
    rw [e] at s2
    omega
theorem x_neo {ρ : DEnv} {p p1 p2 p3 : Pot} {fn : PF} {f g : EF} {d1 d2 : D} {r : Bool} (h : f ρ p = some (d1, p1)) (h2 : g ρ p1 = some (d2, p2)) (hr : isR d1 = true ∧ isR d2 = true) (h3 : fn [d1, d2] p2 = some (.bl r, p3)) : dNeo fn f g ρ p = some (.bl (!r), p3) := by
  unfold dNeo
  rw [h]
  simp only [Option.bind_some]
  rw [h2]
  simp only [Option.bind_some]
  rw [if_pos hr, h3]; rfl
omit G in
theorem x_same {ρ : DEnv} {p : Pot} {f g : EF} {x : Int × Int} (h : f ρ p = some (eA x, p)) (h2 : g ρ p = some (eA x, p)) : dNeo d_Rt_eq f g ρ p = some (.bl false, p) := by
  unfold dNeo
  rw [h]
  simp only [Option.bind_some]
  rw [h2]
  simp only [Option.bind_some]
  rw [if_pos ⟨rfl, rfl⟩, q_Req, decide_eq_true rfl]; rfl
end
/-! ### the look at one lot -/
def envL (L sh lo so : D) (lt : Option D) (R W Hd ev : D) (a b : Option D) : DEnv := [.sh .pot, .sh L, .sh sh, .sh lo, .sh so, jS lt, .sh R, .sh W, .sh Hd, .sh ev, jS a, jS b, .no]
noncomputable abbrev lotBody : SF := dSeq (dPar 10 11 (dCall d__law_lot_rank (dCons (dVar 6) (dCons (dVar 5) (dNil)))) (dCall d__law_ratio (dCons (dCall d__law_excess (dCons (dVar 6) (dCons (dVar 7) (dCons (dVar 5) (dNil))))) (dNil)))) (dSeq (dIte (bOf (dBin gNe (dRepr d_Rt_repr (dLst (dCons (dCall d_lot_rank (dCons (dVar 1) (dCons (dVar 5) (dNil)))) (dCons (dKw d_lot_rank 0 2 [1, 0] dNil (dCons (dApp gTuple (dCons (dVar 5) (dNil))) (dCons (dVar 1) (dNil)))) (dNil))))) (dRepr d_Rt_repr (dLst (dCons (dVar 10) (dCons (dVar 10) (dNil))))))) (dRet (dK (.bl false))) (dNext)) (dIte (bOr (bOf (dNeo d_Rt_eq (dCall d_excess (dCons (dVar 1) (dCons (dVar 8) (dCons (dVar 5) (dNil))))) (dVar 11))) (bOf (dNeo d_Rt_eq (dKw d_excess 0 3 [2, 1, 0] dNil (dCons (dApp gTuple (dCons (dVar 5) (dNil))) (dCons (dApp gTuple (dCons (dVar 8) (dNil))) (dCons (dVar 1) (dNil))))) (dVar 11)))) (dRet (dK (.bl false))) (dNext)))
section
variable {rows : List (List Int)} {ws : List (Int × Int)} {w : Nat} (G : Drawn rows ws w) {p : Pot}
include G
theorem lot_body {sh lo so ev : D} {a b : Option D} {lot : List Int} (hl : lot ∈ lotsOf rows.length) : lotBody (envL (eR rows) sh lo so (some (eI lot)) (eQR (plains rows)) (eQs ws) (eH ws) ev a b) p
    = some (.nx, envL (eR rows) sh lo so (some (eI lot)) (eQR (plains rows)) (eQs ws) (eH ws) ev (some (.int (intRank (sel rows [] lot) : Nat))) (some (eA (excL rows ws lot))), p) := by
  obtain ⟨h1, h2⟩ := lot_ok G.rw hl
  have hnf := excL_nf G.rw h1 h2
  have hrb : Rb 200 (excL rows ws lot) := by
    rw [← exc_eq G.rw h1 h2]
    exact (exc_nf G.rw h1 h2).2
  have r10 := rank_lot G.rw h1 h2
  have s1 : dPar 10 11 (dCall d__law_lot_rank (dCons (dVar 6) (dCons (dVar 5) (dNil)))) (dCall d__law_ratio (dCons (dCall d__law_excess (dCons (dVar 6) (dCons (dVar 7) (dCons (dVar 5) (dNil))))) (dNil))) (envL (eR rows) sh lo so (some (eI lot)) (eQR (plains rows)) (eQs ws) (eH ws) ev a b) p
      = some (.nx, envL (eR rows) sh lo so (some (eI lot)) (eQR (plains rows)) (eQs ws) (eH ws) ev (some (.int (intRank (sel rows [] lot) : Nat))) (some (eA (excL rows ws lot))), p) := by
    have c1 : dCall d__law_lot_rank (dCons (dVar 6) (dCons (dVar 5) (dNil))) (envL (eR rows) sh lo so (some (eI lot)) (eQR (plains rows)) (eQs ws) (eH ws) ev a b) p = some (.int (intRank (sel rows [] lot) : Nat), p) := x_call rfl (q_law_lot_rank G.rw h1 h2)
    have c2 : dCall d__law_ratio (dCons (dCall d__law_excess (dCons (dVar 6) (dCons (dVar 7) (dCons (dVar 5) (dNil))))) (dNil)) (envL (eR rows) sh lo so (some (eI lot)) (eQR (plains rows)) (eQs ws) (eH ws) ev a b) p = some (eA (excL rows ws lot), p) :=
      x_call (x_cons (x_call rfl (q_law_excess G.rw h1 h2)) rfl) (q_law_ratio hnf (hrb.mono (by decide)))
    rw [ev_par, c1]
    simp only [Option.bind_some]
    rw [c2]; rfl
  have q1 : ∀ e : D, LotD lot e → d_lot_rank [eR rows, e] p = some (.int (intRank (sel rows [] lot) : Nat), p) := fun e he => q_lot_rankD G.ls G.rw hl he
  have q2 : ∀ d e : D, (d = .lst (ws.map eW) ∨ d = .tup (ws.map eW)) → LotD lot e → d_excess [eR rows, d, e] p = some (eA (excL rows ws lot), p) := fun d e hd he => q_excessD G.ls G.rw G.nn hd hl he
  refine x_seq s1 (x_seq (x_iteF (p1 := p) (x_two (tell_nat (by omega)) (x_call rfl (q1 _ (.inl rfl))) (q1 _ (.inr rfl)) rfl rfl) rfl) (x_iteF (p1 := p) ?_ rfl))
  refine x_bOr (x_bOf (x_same (x_call rfl (q2 _ _ (.inl rfl) (.inl rfl))) rfl)) ?_
  exact x_bOf (x_same (q2 _ _ (.inr rfl) (.inr rfl)) rfl)
end
/-! ### `_law_right` -/
theorem q_right {p : Pot} (hp : Ip p) : ∃ p', d__law_right [.pot] p = some (.bl true, p') ∧ Ip p' := by
  obtain ⟨rows, w, p1, e1, hp1, GL⟩ := q_law_lists hp
  have hm := GL.many
  obtain ⟨ws, p2, e2, hp2, l2, w2⟩ := q_law_weights (n := rows.length) (by omega) hp1
  have G : Drawn rows ws w := ⟨GL, l2, w2⟩
  have hlots := lots_many G.rw
  have lenP : gLen [eQR (plains rows)] = some (.int (rows.length : Nat)) := by
    show some (D.int ((plains rows).map eQs).length) = _
    unfold plains
    rw [List.length_map, List.length_map]
  have e0 : dAsg (dCall d__law_lists (dCons (dVar 0) (dCons (dK (.int 7)) (dNil)))) (tgName .al 1) (startD n__law_right false [.pot]) p = some (.nx, [.sh .pot, .sh (eR rows), .no, .no, .no, .no, .no, .no, .no, .no, .no, .no, .no], p1) := x_asgN (x_call rfl e1)
  have s2 : dPar 6 7 (dCall d__law_plain (dCons (dVar 1) (dNil))) (dCall d__law_weights (dCons (dVar 0) (dCons (dApp gLen (dCons (dVar 1) (dNil))) (dNil)))) [.sh .pot, .sh (eR rows), .no, .no, .no, .no, .no, .no, .no, .no, .no, .no, .no] p1
      = some (.nx, [.sh .pot, .sh (eR rows), .no, .no, .no, .no, .sh (eQR (plains rows)), .sh (eQs ws), .no, .no, .no, .no, .no], p2) := by
    have c1 : dCall d__law_plain (dCons (dVar 1) (dNil)) [.sh .pot, .sh (eR rows), .no, .no, .no, .no, .no, .no, .no, .no, .no, .no, .no] p1 = some (eQR (plains rows), p1) := x_call rfl (q_law_plain (by omega) fun r hr => by rw [GL.wide r hr]; have := GL.w4; omega)
    have c2 : dCall d__law_weights (dCons (dVar 0) (dCons (dApp gLen (dCons (dVar 1) (dNil))) (dNil))) [.sh .pot, .sh (eR rows), .no, .no, .no, .no, .no, .no, .no, .no, .no, .no, .no] p1 = some (eQs ws, p2) := x_call (x_cons rfl (x_cons (x_app rfl (len_rowsL GL)) rfl)) e2
    rw [ev_par, c1]
    simp only [Option.bind_some]
    rw [c2]; rfl
  have s3 : dPar 8 9 (dCall d__law_handed (dCons (dVar 7) (dNil))) (dCall d__law_bases (dCons (dVar 6) (dNil))) [.sh .pot, .sh (eR rows), .no, .no, .no, .no, .sh (eQR (plains rows)), .sh (eQs ws), .no, .no, .no, .no, .no] p2
      = some (.nx, [.sh .pot, .sh (eR rows), .no, .no, .no, .no, .sh (eQR (plains rows)), .sh (eQs ws), .sh (eH ws), .sh (.lst (sortR (basesL rows))), .no, .no, .no], p2) := by
    have c1 : dCall d__law_handed (dCons (dVar 7) (dNil)) [.sh .pot, .sh (eR rows), .no, .no, .no, .no, .sh (eQR (plains rows)), .sh (eQs ws), .no, .no, .no, .no, .no] p2 = some (eH ws, p2) := x_call rfl (q_law_handed (by rw [G.len]; omega) fun y hy => ⟨(G.wt y hy).1, (G.wt y hy).2.1.mono (by decide)⟩)
    have c2 : dCall d__law_bases (dCons (dVar 6) (dNil)) [.sh .pot, .sh (eR rows), .no, .no, .no, .no, .sh (eQR (plains rows)), .sh (eQs ws), .no, .no, .no, .no, .no] p2 = some (.lst (sortR (basesL rows)), p2) := x_call rfl (q_law_bases G.rw)
    rw [ev_par, c1]
    simp only [Option.bind_some]
    rw [c2]; rfl
  obtain ⟨k1, k2, k3, k4⟩ := ok_shown G
  have s4 : dAsg (dRepr d_Rt_repr (dLst (dCons (dVar 1) (dCons (dVar 8) (dNil))))) (tgName .al 2) [.sh .pot, .sh (eR rows), .no, .no, .no, .no, .sh (eQR (plains rows)), .sh (eQs ws), .sh (eH ws), .sh (.lst (sortR (basesL rows))), .no, .no, .no] p2
      = some (.nx, [.sh .pot, .sh (eR rows), .sh (.str (tx (.lst [eR rows, eH ws]))), .no, .no, .no, .sh (eQR (plains rows)), .sh (eQs ws), .sh (eH ws), .sh (.lst (sortR (basesL rows))), .no, .no, .no], p2) := x_asgN (x_repr rfl k1 k2 k3 k4)
  have qb : ∀ d, RowsD rows d → d_bases [d] p2 = some (.lst (sortR (basesL rows)), p2) := fun d hd => q_bases G.rw GL hd
  have t5 := x_two (ρ := [.sh .pot, .sh (eR rows), .sh (.str (tx (.lst [eR rows, eH ws]))), .no, .no, .no, .sh (eQR (plains rows)), .sh (eQs ws), .sh (eH ws), .sh (.lst (sortR (basesL rows))), .no, .no, .no]) (p := p2) (f1 := dCall d_bases (dCons (dVar 1) (dNil))) (f2 := dKw d_bases 0 1 [0] dNil (dCons (dApp gTuple (dCons (dVar 1) (dNil))) (dNil))) (g1 := dVar 9) (g2 := dVar 9) (tell_bases G) (x_call rfl (qb _ (.inl rfl))) (qb _ (.inr rfl)) rfl rfl
  have s6 : dAsg (dCall d__law_lots (dCons (dApp gLen (dCons (dVar 1) (dNil))) (dNil))) (tgName .al 3) [.sh .pot, .sh (eR rows), .sh (.str (tx (.lst [eR rows, eH ws]))), .no, .no, .no, .sh (eQR (plains rows)), .sh (eQs ws), .sh (eH ws), .sh (.lst (sortR (basesL rows))), .no, .no, .no] p2
      = some (.nx, [.sh .pot, .sh (eR rows), .sh (.str (tx (.lst [eR rows, eH ws]))), .sh (eR (lotsOf rows.length)), .no, .no, .sh (eQR (plains rows)), .sh (eQs ws), .sh (eH ws), .sh (.lst (sortR (basesL rows))), .no, .no, .no], p2) := x_asgN (x_call (x_cons (x_app rfl (len_rowsL GL)) rfl) (q_law_lots (by omega)))
  have hlast : gIx (eR (lotsOf rows.length)) (.int (-1)) = some (eI (allL rows.length)) := by
    show atI ((lotsOf rows.length).map eI) (-1) = _
    rw [at_last (by obtain ⟨l, e⟩ := lots_cons rows.length; rw [e]; simp), List.getLast?_map, all_last]; rfl
  -- some of the lots
  have s7 : ∃ (S : List (List Int)) (p3 : Pot), (∀ l ∈ S, l ∈ lotsOf rows.length) ∧ S.length ≤ 300 ∧ Ip p3 ∧ dAsg (dIf (bOf (dBin gLt (dApp gLen (dCons (dVar 3) (dNil))) (dK (.int 17)))) (dVar 3) (dBin gAdd (eL (lComp [12] (lRange1 (dCons (dK (.int 12)) (dNil))) (tgName .al 12) (bTrue) (dPick 8329 (dVar 0) (lOf (dVar 3))))) (dLst (dCons (dLst (dNil)) (dCons (dBin gIx (dVar 3) (dNeg (dK (.int 1)))) (dNil)))))) (tgName .al 4) [.sh .pot, .sh (eR rows), .sh (.str (tx (.lst [eR rows, eH ws]))), .sh (eR (lotsOf rows.length)), .no, .no, .sh (eQR (plains rows)), .sh (eQs ws), .sh (eH ws), .sh (.lst (sortR (basesL rows))), .no, .no, .no] p2
      = some (.nx, envL (eR rows) (.str (tx (.lst [eR rows, eH ws]))) (eR (lotsOf rows.length)) (eR S) none (eQR (plains rows)) (eQs ws) (eH ws) (.lst (sortR (basesL rows))) none none, p3) := by
    have tst : bOf (dBin gLt (dApp gLen (dCons (dVar 3) (dNil))) (dK (.int 17))) [.sh .pot, .sh (eR rows), .sh (.str (tx (.lst [eR rows, eH ws]))), .sh (eR (lotsOf rows.length)), .no, .no, .sh (eQR (plains rows)), .sh (eQs ws), .sh (eH ws), .sh (.lst (sortR (basesL rows))), .no, .no, .no] p2 = some (decide (((lotsOf rows.length).length : Int) < 17), p2) := by
      refine (x_bOf (x_bin (x_app rfl (show gLen [eR (lotsOf rows.length)] = some (.int ((lotsOf rows.length).length : Nat)) by
        show some (D.int ((lotsOf rows.length).map eI).length) = _
        rw [List.length_map])) rfl g_rel)).trans rfl
    by_cases h17 : ((lotsOf rows.length).length : Int) < 17
    · rw [decide_eq_true h17] at tst
      exact ⟨lotsOf rows.length, p2, fun l h => h, by omega, hp2, x_asgN (x_ifT tst rfl)⟩
    · rw [decide_eq_false h17] at tst
      obtain ⟨ds, p3, c1, c2, c3, c4⟩ := compE (t := tgName .al 12) (f := dPick 8329 (dVar 0) (lOf (dVar 3))) (ρ := [.sh .pot, .sh (eR rows), .sh (.str (tx (.lst [eR rows, eH ws]))), .sh (eR (lotsOf rows.length)), .no, .no, .sh (eQR (plains rows)), .sh (eQs ws), .sh (eH ws), .sh (.lst (sortR (basesL rows))), .no, .no, .no]) (fun k : Nat => D.int (k : Nat)) (fun d => ∃ y, d = eI y ∧ y ∈ lotsOf rows.length) (xs := List.range 12) hp2 fun x hx p hp => by
        obtain ⟨d, p', r1, r2, r3⟩ := pk_call (ρ := [.sh .pot, .sh (eR rows), .sh (.str (tx (.lst [eR rows, eH ws]))), .sh (eR (lotsOf rows.length)), .no, .no, .sh (eQR (plains rows)), .sh (eQs ws), .sh (eH ws), .sh (.lst (sortR (basesL rows))), .no, .no, .sh (.int (x : Nat))]) (p := p) (f := dVar 0) (h := lOf (dVar 3)) (ds := (lotsOf rows.length).map eI) rfl rfl hp (by obtain ⟨l, e⟩ := lots_cons rows.length; rw [e]; simp) (by rw [List.length_map]; omega)
        obtain ⟨y, hy, rfl⟩ := List.mem_map.mp r2
        exact ⟨_, _, p', rfl, r1, r3, y, rfl, hy⟩
      obtain ⟨ys, rfl, hys⟩ := list_enc c4
      rw [List.length_map, List.length_range] at c3
      refine ⟨ys ++ [[], allL rows.length], p3, fun l hl => ?_, by rw [List.length_append, c3]; show 12 + 2 ≤ 300; decide, c2, x_asgN (x_ifF tst (x_bin (x_eL (x_comp rfl ((x_range1 rfl (by decide)).trans (by rw [show (12 : Int).toNat = 12 from rfl, dInts_map])) c1 (by rw [List.length_map]; omega))) (x_lst (x_cons rfl (x_cons (x_bin rfl rfl hlast) rfl)) (by simp)) ?_))⟩
      · rcases List.mem_append.mp hl with hl | hl
        · exact hys l hl
        · simp only [List.mem_cons, List.not_mem_nil, or_false] at hl
          rcases hl with rfl | rfl
          · obtain ⟨l, e⟩ := lots_cons rows.length
            rw [e]; exact List.mem_cons_self
          · exact all_mem _
      · show (if _ then _ else _) = _
        rw [if_pos (by rw [List.length_map, c3]; show 12 + 2 ≤ 65536; decide)]
        unfold eR
        rw [List.map_append]; rfl
  obtain ⟨S, p3, hS, hSl, hp3, s7⟩ := s7
  obtain ⟨j, s8⟩ := forL (t := tgName .al 5) (g := lotBody) (p := p3) eI (fun (_ : Unit) (j : Option D × Option D × Option D) => envL (eR rows) (.str (tx (.lst [eR rows, eH ws]))) (eR (lotsOf rows.length)) (eR S) j.1 (eQR (plains rows)) (eQs ws) (eH ws) (.lst (sortR (basesL rows))) j.2.1 j.2.2) (fun _ _ => ()) (fun _ => True) (xs := S) (s := ()) (j := (none, none, none)) trivial fun lot hl s j _ =>
    ⟨trivial, envL (eR rows) (.str (tx (.lst [eR rows, eH ws]))) (eR (lotsOf rows.length)) (eR S) (some (eI lot)) (eQR (plains rows)) (eQs ws) (eH ws) (.lst (sortR (basesL rows))) j.2.1 j.2.2, (some (eI lot), some (.int (intRank (sel rows [] lot) : Nat)), some (eA (excL rows ws lot))), rfl, lot_body G (hS lot hl)⟩
  have z0 : ∀ ρ : DEnv, dCall (fun a => mkRat (a ++ [.int 1])) (dCons (dK (.int 0)) (dNil)) ρ p3 = some (eA (0, 1), p3) := fun ρ => x_call rfl (mkRat_low (by decide) (by decide))
  have qe : ∀ lot : List Int, lot ∈ lotsOf rows.length → d_excess [eR rows, eH ws, eI lot] p3 = some (eA (excL rows ws lot), p3) := fun lot hl => q_excessD GL G.rw G.nn (.inl rfl) hl (.inl rfl)
  have nilIn : [] ∈ lotsOf rows.length := by
    obtain ⟨l, e⟩ := lots_cons rows.length
    rw [e]; exact List.mem_cons_self
  have q0 := qe [] nilIn
  rw [exc_nil G.rw] at q0
  have qa := qe _ (all_mem rows.length)
  rw [exc_all G] at qa
  obtain ⟨p4, e9, hp4⟩ := q_values G hp3
  have e10 : dAnd (dCall d__law_values_right (dCons (dVar 0) (dCons (dVar 1) (dCons (dVar 8) (dNil))))) (dBin gEq (dRepr d_Rt_repr (dLst (dCons (dVar 1) (dCons (dVar 8) (dNil))))) (dVar 2)) (envL (eR rows) (.str (tx (.lst [eR rows, eH ws]))) (eR (lotsOf rows.length)) (eR S) j.1 (eQR (plains rows)) (eQs ws) (eH ws) (.lst (sortR (basesL rows))) j.2.1 j.2.2) p3 = some (.bl true, p4) := by
    refine x_and (x_call rfl e9) ?_
    rw [if_pos rfl]
    exact x_bin (x_repr rfl k1 k2 k3 k4) rfl (gEq_str (tx_ok k3).2.2)
  have e11 : bOr (bOf (dNeo d_Rt_eq (dCall d_excess (dCons (dVar 1) (dCons (dVar 8) (dCons (dLst (dNil)) (dNil))))) (dCall (fun a => mkRat (a ++ [.int 1])) (dCons (dK (.int 0)) (dNil))))) (bOf (dNeo d_Rt_eq (dCall d_excess (dCons (dVar 1) (dCons (dVar 8) (dCons (dBin gIx (dVar 3) (dNeg (dK (.int 1)))) (dNil))))) (dCall (fun a => mkRat (a ++ [.int 1])) (dCons (dK (.int 0)) (dNil))))) (envL (eR rows) (.str (tx (.lst [eR rows, eH ws]))) (eR (lotsOf rows.length)) (eR S) j.1 (eQR (plains rows)) (eQs ws) (eH ws) (.lst (sortR (basesL rows))) j.2.1 j.2.2) p3 = some (false, p3) :=
    x_bOrF (x_bOf (x_same (x_call rfl q0) (z0 _))) (x_bOf (x_same (x_call (x_cons rfl (x_cons rfl (x_cons (x_bin rfl rfl hlast) rfl))) qa) (z0 _)))
  exact ⟨p4, x_def rfl (x_seq e0 (x_seq s2 (x_seq s3 (x_seq s4 (x_seq (x_iteF (p1 := p2) t5 rfl) (x_seq s6 (x_seq s7 (x_seq (x_for (p1 := p3) rfl s8) (x_seq (x_iteF (p1 := p3) e11 rfl) (x_ret e10)))))))))), hp4⟩
end K36
set_option maxHeartbeats 4000000
namespace K36
open PySem PySem.Spec PyProof.Rows L2 DL RK
section
variable {P : Program} {w : World} {K : PySem.W.Frag} {mg : Str → Option Value} {base : Heap}
/-- Ratio's __init__ stands -/
abbrev FnI (K : PySem.W.Frag) (f : Addr) (fd : FuncData) : Prop := FunD K "__init__" "Ratio.__init__" (defArgs s_Rt_init) (defBody s_Rt_init) (defScope s_Rt_init) [V.int 1] [] f fd
theorem init_binds {f : Addr} {fd : FuncData} (F : FnI K f fd) : L2.Binds K fd ["self", "top", "bottom"] [] ∧ ∃ ds, Vals [V.int 1] ds ∧ L2.Binds K fd ["self", "top", "bottom"] ds := by
  constructor
  · obtain ⟨ds, h1, h2⟩ := FunD.binds1 (ps := ["self", "top", "bottom"]) F 3 1 (by simp) (by rfl) fun T kV doc pm an cdv ct us its hl hi => match us, its, hl, hi with | [_, _, _], [_], _, _ => ⟨_, rfl, rfl⟩
    cases h1
    exact h2
  · exact FunD.binds1 (ps := ["self", "top", "bottom"]) F 2 0 (by simp) (by rfl) fun T kV doc pm an cdv ct us its hl hi => match us, its, hl, hi with | [_, _], [_], _, _ => ⟨_, rfl, rfl⟩
theorem mk_ratio {f : Addr} {fd : FuncData} (T : Tops P w K mg base) (F : FnI K f fd) (M : L2.Mk K (clsM mg) f) (G_is_integer : Dfn P w K mg base "is_integer" 1 ["value"] false d_is_integer) (G_common_part : Dfn P w K mg base "common_part" 1 ["one", "other"] false d_common_part) : Mkr P w K mg base 2 := by
  obtain ⟨b1, b2⟩ := init_binds F
  refine ⟨⟨f, fd, M, ?_, b1, b2⟩, T.R, T.m_Ratio⟩
  refine F.ok sc_Rt_init (fun vs H Q E ⟨pa, p, x, dx, t, b, e, _⟩ => by rw [e]; rfl) fun cdv A outer s H vs Q E hr h => ⟨_, (bd_Rt_init T G_is_integer G_common_part f cdv A outer s H E hr).nox, ?_⟩
  obtain ⟨pa, p, x, dx, t, b, rfl, hp, hx, ex, hb, hb2, q⟩ := h
  refine init_go T.R rfl hp hx ex hb hb2 (fun ρ e p => ?_) (fun ρ e p => ?_) (fun p => ?_) (fun p => ?_) (fun p => ?_) (fun p => ?_) q
  · subst e
    exact x_iteF (p1 := p) (x_bNot (b := true) (x_bOf (x_call rfl (q_is_integer t)))) rfl
  · subst e
    refine x_iteF (p1 := p) (x_bOr (b := false) (x_bNot (b := true) (x_bOf (x_call rfl (q_is_integer b)))) ?_) rfl
    rw [if_neg Bool.false_ne_true]
    exact x_bOf ((x_bin rfl rfl g_eq).trans (by rw [decide_eq_false hb]))
  · exact x_asgN (x_call rfl (q_common t b))
  · have ht : bOf (dBin gLt (dVar 2) (dK (.int 0))) [.sh (.obj x), .sh (.int t), .sh (.int b), .sh (.int ((Nat.gcd t.natAbs b.natAbs : Nat) : Int))] p = some (decide (b < 0), p) := x_bOf (x_bin rfl rfl g_rel)
    unfold commonOf
    by_cases h0 : b < 0
    · rw [decide_eq_true h0] at ht
      rw [if_pos h0]
      exact x_iteT ht (x_asgN (x_bin rfl rfl g_sub))
    · rw [decide_eq_false h0] at ht
      rw [if_neg h0]
      exact x_iteF ht rfl
  · exact x_bin rfl rfl (g_fdiv ⟨commonOf_ne hb, commonOf_small hb hb2⟩)
  · exact x_bin rfl rfl (g_fdiv ⟨commonOf_ne hb, commonOf_small hb hb2⟩)
end
section
variable {P : Program} {w : World} {K : PySem.W.Frag} {mg : Str → Option Value} {base : Heap}
/-! ### the law's pot -/
abbrev s__law_pot : Stmt := topS 51
abbrev n__law_pot : List Str := ["script", "k", "cell"]
theorem sc__law_pot : FnScope n__law_pot ["script", "k"] (defScope s__law_pot) := ⟨rfl, rfl, rfl, by decide +kernel, rfl, by decide +kernel, by decide +kernel⟩
def spPot (K : PySem.W.Frag) : Sp := fun vs H Q _ => ∃ (a : Addr) (ns : List Int) (k : Nat), vs = [.ref a, .int (k : Nat)] ∧ SqL K H a (ns.map V.int) ∧ k ≤ 2 ∧ ∀ T p, H T = none → Ip p → Q (.ref T) (upd H T (potO p))
theorem fn_pot (T : Tops P w K mg base) {f : Addr} {fd : FuncData} (F : L2.Fun K "_law_pot" "_law_pot" s__law_pot f fd) : FnOk P w K mg base CX0 1 f fd ["script", "k"] (spPot K) ∧ L2.Binds K fd ["script", "k"] [] := by
  refine ⟨F.ok sc__law_pot (fun vs H Q E ⟨a, ns, k, e, _⟩ => by rw [e]; rfl) fun cdv A outer s H vs Q E hr h => ⟨_, (pss_cons (ps_set (i := 2) sc__law_pot.nd rfl (.inl rfl) (pe_ifExp (pt_cmpR op_lt (pv 1) (pe_callB call_len_seq (by rfl) T.z_len PySem.boot_len (pa_cons (pv 0) pa_nil)) (nomark _))
      (pe_callB call_abs (by rfl) T.z_abs boot_abs (pa_cons (pe_ix ix_seq (pv 0) (pv 1) (fun _ _ => rfl)) pa_nil)) (pe_op op_add (pe_op op_mul pe_int (pv 1)) pe_int)))
    (pss_one (ps_ret (pe_lst (pa_cons (pe_callB (call_max2 rfl) (by rfl) T.z_max boot_max (pa_cons pe_int (pa_cons (pe_op op_sub (pv 2) (pe_op op_pow pe_int pe_int)) pa_nil)))
      (pa_cons (pe_op op_add (pe_op op_mod (pe_callTy call_int1 (by rfl) T.z_int (by decide +kernel) (pa_cons (pe_op op_add (pe_op op_add (pe_op op_mul (pe_op op_mod (pe_callTy call_int1 (by rfl) T.z_int (by decide +kernel) (pa_cons (pv 2) pa_nil)) pe_int) pe_int) (pe_op op_mul pe_int (pv 1))) pe_int) pa_nil)) pe_int) pe_int) pa_nil)))))).nox, ?_⟩,
    F.binds (fun _ _ _ _ _ _ us hl => match us, hl with | [_, _], _ => rfl)⟩
  obtain ⟨a, ns, k, rfl, hS, hk, q⟩ := h
  -- behind the cell
  have fin : ∀ c : Int, ∀ σ : L2.St, σ = [some (.ref a), some (.int (k : Nat)), some (.int c)] →
      tRet (tLst (tCons (tCB (fun xs H Q => ∃ i j, xs = [.int i, .int j] ∧ Q (.int (if j > i then j else i)) H) (tCons (tC (.int 0)) (tCons (tOp (rI0 fun i j => .int (i - j)) (tVar 2) (tOp (rI CPow fun i j => .int (i ^ j.toNat)) (tC (.int 10)) (tC (.int 18)))) tNil)))
        (tCons (tOp (rI0 fun i j => .int (i + j)) (tOp (rI (fun _ j => 0 < j) fun i j => .int (i % j)) (tCB (fun xs H Q => (∃ i, xs = [.int i] ∧ Q (.int i) H) ∨ ∃ k, xs = [.bl k] ∧ Q (.int (if k then 1 else 0)) H)
          (tCons (tOp (rI0 fun i j => .int (i + j)) (tOp (rI0 fun i j => .int (i + j)) (tOp (rI CMul fun i j => .int (i * j)) (tOp (rI (fun _ j => 0 < j) fun i j => .int (i % j)) (tCB (fun xs H Q => (∃ i, xs = [.int i] ∧ Q (.int i) H) ∨ ∃ k, xs = [.bl k] ∧ Q (.int (if k then 1 else 0)) H) (tCons (tVar 2) tNil)) (tC (.int 2147483549))) (tC (.int 40014))) (tOp (rI CMul fun i j => .int (i * j)) (tC (.int 4363)) (tVar 1))) (tC (.int 1231))) tNil)) (tC (.int 2147483563))) (tC (.int 1))) tNil))) { nx := fun _ H' => Q .non H', rt := Q } σ H := by
    intro c σ hσ
    subst hσ
    have hm : ∀ x : Int, 0 ≤ x % 2147483563 ∧ x % 2147483563 < 2147483563 := fun x => ⟨Int.emod_nonneg _ (by decide), Int.emod_lt_of_pos _ (by decide)⟩
    have hm2 : 0 ≤ c % 2147483549 ∧ c % 2147483549 < 2147483549 := ⟨Int.emod_nonneg _ (by decide), Int.emod_lt_of_pos _ (by decide)⟩
    refine ⟨_, rfl, 10, 18, rfl, rfl, ⟨by decide, by decide, by decide⟩, _, _, rfl, rfl, _, _, rfl, ?_⟩
    refine ⟨_, rfl, .inl ⟨_, rfl, _, _, rfl, rfl, (by show (0 : Int) < 2147483549; decide), _, _, rfl, rfl, .inr ⟨by decide, by decide⟩, ?_⟩⟩
    refine ⟨_, rfl, _, _, rfl, rfl, .inl ⟨by decide, by decide⟩, _, _, rfl, rfl, _, _, rfl, rfl, .inl ⟨_, rfl, _, _, rfl, rfl, (by show (0 : Int) < 2147483563; decide), _, _, rfl, rfl, ?_⟩⟩
    refine ⟨small_line (show 2 ≤ 65536 by decide), fun T hT => ?_⟩
    have h1 := hm (c % 2147483549 * 40014 + 4363 * ((k : Nat) : Int) + 1231)
    exact q T (_, (c % 2147483549 * 40014 + 4363 * ((k : Nat) : Int) + 1231) % 2147483563 + 1) hT ⟨by show (0 : Int) ≤ _ + 1; omega, by show _ + 1 < (2147483648 : Int); omega⟩
  by_cases hk2 : (k : Int) < (ns.length : Nat)
  · have hk3 : k < ns.length := by omega
    refine ⟨_, rfl, _, rfl, a, _, rfl, .inl hS, _, _, rfl, rfl, _, rfl, ?_⟩
    rw [decide_eq_true (by rw [List.length_map]; exact hk2)]
    refine ⟨_, rfl, _, rfl, .inl ⟨a, _, _, .int ns[k], rfl, rfl, hS, ?_, _, rfl, ?_⟩⟩
    · rw [atI_nat]
      rw [List.getElem?_map, List.getElem?_eq_getElem hk3]; rfl
    · exact fin _ _ rfl
  · refine ⟨_, rfl, _, rfl, a, _, rfl, .inl hS, _, _, rfl, rfl, _, rfl, ?_⟩
    rw [decide_eq_false (by rw [List.length_map]; exact hk2)]
    refine ⟨_, rfl, _, _, rfl, rfl, .inl ⟨by decide, by decide⟩, _, _, rfl, rfl, ?_⟩
    exact fin _ _ rfl
end
variable {P : Program} {w : World} {K : PySem.W.Frag} {mg : Str → Option Value} {base : Heap}
def spRight (C : Addr) : Sp := fun vs H Q _ => ∃ (pa : Addr) (p : Pot), vs = [.ref pa] ∧ H pa = some (potO p) ∧ Ip p ∧ ∀ H', (∀ a o, a ≠ pa → H a = some o → H' a = some o) → Q (.bl true) H'
theorem right_of {kk : Nat} {f : Addr} {fd : FuncData} (F : FnG P w K mg base kk f fd ["pot"] (spD (clsM mg) false d__law_right)) : FnG P w K mg base kk f fd ["pot"] (spRight (clsM mg)) := by
  refine ⟨fun vs H Q E ⟨pa, p, e, _⟩ => by rw [e]; rfl, fun A outer s H args us vs Q E hr hgd he hb hv h => F.run A outer s H args us vs Q E hr hgd he hb hv ?_⟩
  obtain ⟨pa, p, rfl, hp, hip, q⟩ := h
  obtain ⟨p', e, _⟩ := q_right hip
  exact ⟨pa, fun a => a ≠ pa, p, [.pot], .bl true, p', hp, fun z => z rfl, .cons .pot .nil, e, fun v H' k r => by cases r; exact q H' k.1⟩
/-! ### the law -/
abbrev s_law : Stmt := topS 79
abbrev n_law : List Str := ["script", "k"]
theorem sc_law : FnScope n_law ["script"] (defScope s_law) := ⟨rfl, rfl, rfl, by decide +kernel, rfl, by decide +kernel, by decide +kernel⟩
def spLaw (K : PySem.W.Frag) : Sp := fun vs H Q _ => ∃ (a : Addr) (ns : List Int), vs = [.ref a] ∧ SqL K H a (ns.map V.int) ∧ ns.length ≤ 63 ∧ (∀ b, H b = none ∨ ∃ ob xs, H b = some (.frz ob xs)) ∧ ∀ H', Q (.bl true) H'
theorem fn_law (T : Tops P w K mg base) (GR : DfnR P w K mg base "_law_right" 14 ["pot"] d__law_right) {f fP : Addr} {fd fdP : FuncData} (F : L2.Fun K "law" "law" s_law f fd) (FP : L2.Fun K "_law_pot" "_law_pot" s__law_pot fP fdP) (gP : mg "_law_pot" = some (.ref fP)) :
    FnG P w K mg base 43 f fd ["script"] (spLaw K) := by
  obtain ⟨fR, fdR, okR0, gR, kpR, bR⟩ := GR.ex
  have okR := right_of okR0
  obtain ⟨okP, bP⟩ := fn_pot T FP
  refine funG F sc_law (fun vs H Q E ⟨a, ns, e, _⟩ => by rw [e]; rfl) fun cdv A outer s H vs Q E hr hgd h => ⟨_,
    pss_one (ps_ret (pe_callB (cr_all rfl) (by rfl) T.z_all PyProof.Rows.boot_all (pa_cons (pe_lc (own := [("k", 1)]) rfl sc_law.nd (pi_range1 (by rfl) T.z_range (pa_cons (pe_callB (call_max2 rfl) (by rfl) T.z_max boot_max (pa_cons pe_int (pa_cons (pe_callB (call_min2 rfl) (by rfl) T.z_min boot_min (pa_cons pe_int (pa_cons (pe_callB call_len_seq (by rfl) T.z_len PySem.boot_len (pa_cons (pv 0) pa_nil)) pa_nil))) pa_nil))) pa_nil))
      (blkOk_by (N := n_law) (sc := defScope s_law) (by decide +kernel)) (fun _ _ _ _ _ => pg_name (i := 1) sc_law.nd rfl (.inl rfl)) (fun _ _ _ _ _ => pts_nil)
      (fun _ _ _ _ _ => pe_callG okR (hr.mono (by decide)) hgd (by rfl) gR kpR bR (pa_cons (pe_call okP (hr.mono (by decide)) (by rfl) gP FP.kp bP .nil pass0 (pa_cons (pv 0) (pa_cons (pv 1) pa_nil))) pa_nil))) pa_nil))), ?_⟩
  obtain ⟨a, ns, rfl, hS, hlen, hO, q⟩ := h
  refine ⟨_, rfl, a, _, rfl, .inl hS, 2, _, rfl, 1, _, rfl, ?_⟩
  have hj : ∃ n : Nat, n ≤ 2 ∧ (if (if ((ns.map V.int).length : Int) < 2 then ((ns.map V.int).length : Int) else 2) > 1 then (if ((ns.map V.int).length : Int) < 2 then ((ns.map V.int).length : Int) else 2) else 1) = (n : Int) := by
    by_cases h2 : ((ns.map V.int).length : Int) < 2
    · rw [if_pos h2]
      by_cases h1 : ((ns.map V.int).length : Int) > 1
      · rw [if_pos h1]; exact ⟨(ns.map V.int).length, by omega, rfl⟩
      · rw [if_neg h1]; exact ⟨1, by decide, rfl⟩
    · rw [if_neg h2, if_pos (by decide)]; exact ⟨2, Nat.le_refl _, rfl⟩
  obtain ⟨n, hn, ej⟩ := hj
  refine ⟨_, rfl, ?_, ?_, ?_⟩
  · rw [ej]; omega
  · rw [ej]; omega
  · rw [ej, Int.toNat_natCast]
    intro D nD
    refine ⟨fun i m H2 => i ≤ n ∧ m + i = n ∧ (∀ b o, H b = some o → H2 b = some o) ∧ H2 D = some (.lst (List.replicate i (V.bl true))), ⟨n, Nat.zero_le _, rfl, fun b o e => ?_, upd_same⟩, ?_⟩
    · rw [upd_ne (fun z => by rw [z, nD] at e; cases e)]; exact e
    · rintro i m H2 ⟨hi, him, hk, hD⟩
      have hS2 : SqL K H2 a (ns.map V.int) := Same.seq (fun b o e => hk b o e) hS
      by_cases hlt : i < n
      · refine .inr ⟨hlt, fun H3 => i + 1 ≤ n ∧ m - 1 + (i + 1) = n ∧ (∀ b o, H b = some o → H3 b = some o) ∧ H3 D = some (.lst (List.replicate (i + 1) (V.bl true))), fun H3 z => ⟨m - 1, by omega, z⟩, ?_⟩
        rintro x H3 ⟨rfl, rfl⟩
        have e0 : V.int (0 + ((i : Nat) : Int)) = V.int ((i : Nat) : Int) := by rw [Int.zero_add]
        refine ⟨rfl, ?_⟩
        refine ⟨_, rfl, _, rfl, a, ns, i, congrArg (fun z => [V.ref a, z]) e0, hS2, by omega, fun T p hT hip => ⟨T, p, rfl, upd_same, hip, fun H4 h4 => ?_⟩⟩
        have nTD : D ≠ T := fun z => by rw [z, hT] at hD; cases hD
        have hD4 : H4 D = some (.lst (List.replicate i (V.bl true))) := h4 D _ nTD (by rw [upd_ne nTD]; exact hD)
        refine ⟨_, hD4, ?_, by omega, by omega, fun b o e => ?_, ?_⟩
        · rw [List.length_replicate]; exact small_lt (by omega)
        · have e3 := hk b o e
          have nb : b ≠ T := fun z => by rw [z, hT] at e3; cases e3
          have nbD : b ≠ D := fun z => by rw [z, nD] at e; cases e
          rw [upd_ne nbD]
          exact h4 b o nb (by rw [upd_ne nb]; exact e3)
        · rw [upd_same, List.replicate_succ']
      · refine .inl ⟨by show n ≤ i; omega, D, List.replicate i true, rfl, SqL.of (by rw [hD, List.map_replicate]), ?_⟩
        have : (List.replicate i true).all id = true := by
          rw [List.all_eq_true]
          intro b hb
          rw [(List.mem_replicate.mp hb).2]; rfl
        rw [this]
        exact q _
end K36
/-! DH: the head of a law, its facts read by a Hook of one's own (getters of properties too). -/
namespace DH
open PySem PySem.Spec PyProof.Rows L2 DL He
abbrev FB := PySem.W.Frag → Bool
/-- where a def stands -/
inductive Pt where
  | glo (x : Str) | meth (c m : Str) | prop (c m : Str)
/-- the getter of a property's record -/
def getr (K : PySem.W.Frag) (p : Addr) : Addr := match PySem.W.recIn K p "property" with
  | some (.ref g :: _) => g
  | _ => 0
def Pt.ad (K : PySem.W.Frag) : Pt → Addr
  | .glo x => ga K x
  | .meth c m => ma K (ga K c) m
  | .prop c m => getr K (ma K (ga K c) m)
/-- a def as it is to be found -/
structure DR where
  p : Pt
  name : Str
  qual : Str
  st : Stmt
  dfl : List V
abbrev Seen := Option (Str × Str × Arguments × FuncBody × Scope × Addr × List (Str × Addr) × Addr)
def seen (K : PySem.W.Frag) (p : Pt) : Seen := match K.lookup (p.ad K) with
  | some ⟨_, _, .func u, _⟩ => some (u.name, u.qualname, u.params, u.body, u.scope, u.globals, u.closure, u.builtins)
  | _ => none
def DR.due (d : DR) : Seen := some (d.name, d.qual, defArgs d.st, .stmts (defBody d.st), defScope d.st, mainGlobals, [], builtinsNs)
def DR.fine (d : DR) : FB := fun K => match K.lookup (d.p.ad K) with
  | some ⟨_, _, .func u, _⟩ => PySem.W.keepIn K (.ref (d.p.ad K)) && (PySem.W.codeIn K u.code d.qual && dflB K u.defaults d.dfl)
  | _ => false
theorem DR.fun {K : PySem.W.Frag} {d : DR} (h1 : seen K d.p = d.due) (h2 : d.fine K = true) : ∃ fd, FunD K d.name d.qual (defArgs d.st) (defBody d.st) (defScope d.st) d.dfl [] (d.p.ad K) fd := by
  unfold seen at h1
  unfold DR.fine at h2
  generalize hl : K.lookup (d.p.ad K) = r at h1 h2
  match r, hl, h1, h2 with
  | some ⟨oc, od, .func ⟨n1, n2, n3, n4, n5, n6, n7, n8, n9, n10, n11, n12, n13, n14, n15⟩, sl⟩, hl, h1, h2 =>
    simp only [Bool.and_eq_true] at h2
    obtain ⟨kp, cd, df⟩ := h2
    simp only [DR.due, Option.some.injEq, Prod.mk.injEq] at h1
    obtain ⟨rfl, rfl, rfl, rfl, rfl, rfl, rfl, rfl⟩ := h1
    exact ⟨_, ⟨oc, od, n8, n9, n10, n11, n12, n13, n14, sl, rfl, hl, cd, dflB_ok df, .inl rfl⟩, kp⟩
theorem fun_of {K : PySem.W.Frag} {x qual : Str} {st : Stmt} {f : Addr} (h : ∃ fd, FunD K x qual (defArgs st) (defBody st) (defScope st) [] [] f fd) : ∃ fd, L2.Fun K x qual st f fd := by
  obtain ⟨fd, h, kp⟩ := h
  obtain ⟨oc, od, dV, kV, doc, pm, an, cdv, ct, osl, e, lk, hcd, hD, _⟩ := h
  rcases hD with ⟨_, z⟩ | ⟨z, _⟩
  · subst z; exact ⟨fd, ⟨oc, od, kV, doc, pm, an, cdv, ct, osl, e, lk, hcd⟩, kp⟩
  · exact absurd rfl z
/-! ### the part of the heap that is looked at: functions, their code and defaults, classes, what stands in them -/
def goesTo (o : Obj) : List Addr := match o.data with
  | .dict es _ => es.toList.flatMap fun e => refV e.val
  | .func u => refV u.code ++ refV u.defaults
  | .cls cd => [cd.ns]
  | .fields vs => (match o.cls with
    | .type n => if n == "property" then vs.toList.flatMap refV else []
    | _ => [])
  | _ => []
def ring (g : Addr → Option Obj) (as : List Addr) : List Addr := as.flatMap fun a => match g a with
  | some o => goesTo o
  | none => []
def rings (g : Addr → Option Obj) : Nat → List Addr → List Addr
  | 0, as => as
  | n + 1, as => as ++ rings g n (ring g as)
/-! ### the Hook -/
abbrev AR := Bool × List Seen
def lookR (fc : List FB) (fn : List DR) (K : PySem.W.Frag) : AR := (fc.all (fun c => c K) && fn.all (fun d => d.fine K), fn.map fun d => seen K d.p)
def dueR (fn : List DR) : AR := (true, fn.map DR.due)
def SaysR (fc : List FB) (fn : List DR) (K : PySem.W.Frag) : Prop := lookR fc fn K = dueR fn
def offG (n : Nat) (fc : List FB) (fn : List DR) (g : Addr → Option Obj) : AR := lookR fc fn (frG g (rings g n [mainGlobals]))
def hookR (n : Nat) (fc : List FB) (fn : List DR) : PySem.W.Hook where
  α := AR
  obs := fun s => offG n fc fn s.heap.get?
  val := fun _ => dueR fn
  says := fun _ h => ∃ K : PySem.W.Frag, K.In h ∧ SaysR fc fn K
  of := fun _ _ z => ⟨_, frG_in, z⟩
  keeps := fun _ _ _ ⟨K, i, c⟩ k => ⟨K, PySem.W.Frag.In.keeps i k, c⟩
def obR (n : Nat) (fc : List FB) (fn : List DR) (s : PySem.W.SharedT) : AR := offG n fc fn (HandSHeadRun.getT s)
theorem obR_eq (n : Nat) (fc : List FB) (fn : List DR) (s : PySem.W.SharedT) : obR n fc fn s = (hookR n fc fn).obs s.abs := by
  unfold obR
  rw [show HandSHeadRun.getT s = s.abs.heap.get? from funext (HandSHeadRun.getT_eq s)]
  rfl
section
variable {fc : List FB} {fn : List DR} {K : PySem.W.Frag}
theorem SaysR.fact (c : SaysR fc fn K) {i : Nat} {f : FB} (h : fc[i]? = some f) : f K = true := by
  have h1 : (fc.all (fun c => c K) && fn.all (fun d => d.fine K)) = true := congrArg Prod.fst c
  rw [Bool.and_eq_true] at h1
  exact List.all_eq_true.mp h1.1 f (List.mem_of_getElem? h)
theorem SaysR.at_ (c : SaysR fc fn K) {i : Nat} {d : DR} (h : fn[i]? = some d) : ∃ fd, FunD K d.name d.qual (defArgs d.st) (defBody d.st) (defScope d.st) d.dfl [] (d.p.ad K) fd := by
  have h1 : (fc.all (fun c => c K) && fn.all (fun d => d.fine K)) = true := congrArg Prod.fst c
  rw [Bool.and_eq_true] at h1
  have h2 : fn.map (fun d => seen K d.p) = fn.map DR.due := congrArg Prod.snd c
  have h3 := congrArg (fun l : List Seen => l[i]?) h2
  simp only [List.getElem?_map, h, Option.map_some, Option.some.injEq] at h3
  exact DR.fun h3 (List.all_eq_true.mp h1.2 d (List.mem_of_getElem? h))
end
theorem mapAll {α β γ δ ε : Type} {e : Option α} {f : α → β} {g : α → γ} {h : α → δ × ε} {a : β} {b : γ} {c : δ} {d : ε} (h1 : e.map f = some a) (h2 : e.map g = some b) (h3 : e.map (fun x => (h x).1) = some c) (h4 : e.map (fun x => (h x).2) = some d) :
    e.map (fun x => (f x, g x, h x)) = some (a, b, (c, d)) := by
  cases e with
  | none => cases h1
  | some x =>
    simp only [Option.map_some, Option.some.injEq] at h1 h2 h3 h4 ⊢
    rw [h1, h2, ← h3, ← h4]
/-! ### facts, each as a look and what it tells -/
section
variable {K : PySem.W.Frag} {h : Heap} {mg : Str → Option Value}
def fGlo (x : Str) : FB := fun K => (Fa.glo x).ok K
def fFree (x : Str) : FB := fun K => (Fa.free x).ok K
def fInt (x : Str) (i : Int) : FB := fun K => (Fa.int x i).ok K
def fStr (x z : Str) : FB := fun K => (Fa.str x z).ok K
def fBi (x : Str) (n : String) : FB := fun K => eqO (PySem.W.nsIn K mainGlobals x) (some (some (.builtin n)))
theorem bi_ok (X : K.In h) (G : h.Ns mainGlobals mg) {x : Str} {n : String} (c : fBi x n K = true) : mg x = some (.builtin n) := PySem.W.mg_of X G (eqO_ok c)
theorem stands_ok (X : K.In h) (G : h.Ns mainGlobals mg) {x : Str} {st : Stmt} (c : fGlo x K = true) (F : ∃ fd, FunD K x x (defArgs st) (defBody st) (defScope st) [] [] (ga K x) fd) : Stands K mg x st := by
  obtain ⟨fd, F⟩ := fun_of F
  exact ⟨_, fd, F, glo_ok X G c⟩
/-- a method as it stands -/
def MStE (K : PySem.W.Frag) (C : Addr) (x qual : Str) (st : Stmt) : Prop := ∃ g fd, MSt K C x qual st g fd
def fMeth (c m : Str) : FB := fun K => eqO (PySem.W.findIn K (.ref (ga K c)) m) (some (some (.ref (ma K (ga K c) m)))) && PySem.W.isFn K (.ref (ma K (ga K c) m))
theorem mst_ok {c x qual : Str} {st : Stmt} (z : fMeth c x K = true) (F : ∃ fd, FunD K x qual (defArgs st) (defBody st) (defScope st) [] [] (ma K (ga K c) x) fd) : MStE K (ga K c) x qual st := by
  obtain ⟨fd, F⟩ := fun_of F
  obtain ⟨z1, z2⟩ := ba z
  exact ⟨_, fd, F, eqO_ok z1, z2⟩
def PStE (K : PySem.W.Frag) (C : Addr) (x qual : Str) (st : Stmt) : Prop := ∃ q g fd, PropOf K C x q g ∧ L2.Fun K x qual st g fd
def fProp (c m : Str) : FB := fun K => eqO (PySem.W.findIn K (.ref (ga K c)) m) (some (some (.ref (ma K (ga K c) m)))) && (eqO (PySem.W.specialIn K (.ref (ma K (ga K c) m)) "__get__") (some (some (.builtin "property.__get__"))) && (decide (PySem.W.takesIn K (.ref (ma K (ga K c) m)) = some true) &&
  match PySem.W.recIn K (ma K (ga K c) m) "property" with
  | some (.ref _ :: _) => true
  | _ => false))
theorem pst_ok {c x qual : Str} {st : Stmt} (z : fProp c x K = true) (F : ∃ fd, FunD K x qual (defArgs st) (defBody st) (defScope st) [] [] (getr K (ma K (ga K c) x)) fd) : PStE K (ga K c) x qual st := by
  obtain ⟨fd, F⟩ := fun_of F
  obtain ⟨z1, z⟩ := ba z
  obtain ⟨z2, z⟩ := ba z
  obtain ⟨z3, z4⟩ := ba z
  refine ⟨_, _, fd, ⟨eqO_ok z1, eqO_ok z2, of_decide_eq_true z3, ?_⟩, F⟩
  unfold getr
  split at z4
  · rename_i g rest e
    rw [e]
    exact ⟨rest, rfl⟩
  · cases z4
def OStE (K : PySem.W.Frag) (C : Addr) (op : Operator) (qual x : Str) (st : Stmt) : Prop := ∃ g fd rc, OpSt K C op qual x st g fd rc
def fOp (c : Str) (op : Operator) (x : Str) : FB := fun K => eqO (PySem.W.findIn K (.ref (ga K c)) (PySem.dunder op.info.2)) (some (some (.ref (ma K (ga K c) x)))) && (PySem.W.isFn K (.ref (ma K (ga K c) x)) && (PySem.W.selfFirst K (ga K c) &&
  ((match PySem.W.findIn K (.ref (ga K c)) (dunderR op.info.2) with
  | some none => true
  | some (some (.ref _)) => true
  | _ => false) && ((PySem.W.findIn K (.type "int") (PySem.dunder op.info.2)).isSome && ((PySem.W.findIn K (.type "int") (dunderR op.info.2)).isSome && decide (PySem.W.subIn K (.type "int") (.ref (ga K c)) = some false))))))
theorem ost_ok {c x qual : Str} {op : Operator} {st : Stmt} (z : fOp c op x K = true) (F : ∃ fd, FunD K x qual (defArgs st) (defBody st) (defScope st) [] [] (ma K (ga K c) x) fd) : OStE K (ga K c) op qual x st := by
  obtain ⟨fd, F⟩ := fun_of F
  obtain ⟨z1, z⟩ := ba z
  obtain ⟨z2, z⟩ := ba z
  obtain ⟨z3, z⟩ := ba z
  obtain ⟨z4, z⟩ := ba z
  obtain ⟨z5, z⟩ := ba z
  obtain ⟨z6, z7⟩ := ba z
  obtain ⟨fo, e5⟩ := Option.isSome_iff_exists.mp z5
  obtain ⟨ro, e6⟩ := Option.isSome_iff_exists.mp z6
  split at z4
  · rename_i e
    exact ⟨_, fd, none, F, eqO_ok z1, z2, z3, e, .inl rfl, ⟨fo, e5⟩, ⟨ro, e6⟩, of_decide_eq_true z7⟩
  · rename_i g e
    exact ⟨_, fd, some (.ref g), F, eqO_ok z1, z2, z3, e, .inr ⟨g, rfl⟩, ⟨fo, e5⟩, ⟨ro, e6⟩, of_decide_eq_true z7⟩
  · cases z4
def fMk (c : Str) : FB := fun K => (Fa.mkr c).ok K
def fFind (c m : Str) (n : String) : FB := fun K => eqO (PySem.W.findIn K (.ref (ga K c)) m) (some (some (.builtin n)))
theorem find_ok {c m : Str} {n : String} (z : fFind c m n K = true) : PySem.W.findIn K (.ref (ga K c)) m = some (some (.builtin n)) := eqO_ok z
def fRat (c : Str) : FB := fun K => (Fa.cls c).ok K && ((Fa.noat c "own_top").ok K && ((Fa.noat c "own_bottom").ok K && (eqO (PySem.W.findIn K (.ref (ga K c)) "__class__") (some (some (.builtin "object.__class__"))) && (
  eqO (PySem.W.specialIn K (.builtin "object.__class__") "__get__") (some (some (.builtin "getset_descriptor.__get__"))) && (decide (PySem.W.takesIn K (.builtin "object.__class__") = some true) && (decide (PySem.W.mroIn K (ga K c) (.type "object") = some true) && (
  decide (PySem.W.kitOne K (.ref (ga K c)) (.ref (ga K c)) = some true) && (["int", "bool", "list", "tuple", "str"].all (fun t => decide (PySem.W.kitOne K (.ref (ga K c)) (.type t) = some false)) && ["NoneType", "bool", "int", "str", "list", "tuple", "dict"].all (fun t => decide (PySem.W.kitOne K (.type t) (.ref (ga K c)) = some false))))))))))
theorem rat_ok {c : Str} (z : fRat c K = true) : RatF K (ga K c) := by
  obtain ⟨z1, z⟩ := ba z
  obtain ⟨z2, z⟩ := ba z
  obtain ⟨z3, z⟩ := ba z
  obtain ⟨z4, z⟩ := ba z
  obtain ⟨z5, z⟩ := ba z
  obtain ⟨z6, z⟩ := ba z
  obtain ⟨z7, z⟩ := ba z
  obtain ⟨z8, z⟩ := ba z
  obtain ⟨z9, z10⟩ := ba z
  have a := fun t ht => of_decide_eq_true (List.all_eq_true.mp z9 t ht)
  have b := fun t ht => of_decide_eq_true (List.all_eq_true.mp z10 t ht)
  exact { cl := cls_ok z1, ca := eqO_ok z4, cg := eqO_ok z5, ct := of_decide_eq_true z6, cm := of_decide_eq_true z7, k1 := a _ (by simp), k2 := a _ (by simp), k3 := a _ (by simp), k4 := a _ (by simp), k5 := a _ (by simp), kr := of_decide_eq_true z8,
          n1 := b _ (by simp), n2 := b _ (by simp), n3 := b _ (by simp), n4 := b _ (by simp), n5 := b _ (by simp), n6 := b _ (by simp), n7 := b _ (by simp), nT := noat_ok z2, nB := noat_ok z3 }
theorem clsM_ok (X : K.In h) (G : h.Ns mainGlobals mg) (z : fGlo "Ratio" K = true) : clsM mg = ga K "Ratio" := by
  unfold clsM
  rw [glo_ok X G z]
end
/-- the walk, its facts by a Hook -/
theorem walkGE {l : PySem.W.OpenLaw} {n kk : Nat} {q : Program} {loose : List Str} {XP : (Str → Option Value) → Heap → Prop} {YP : World → Heap → Prop} {d : DefRec} {x : Str} (hn : l.most = some n) (hn2 : n ≤ sizeLine) (hdf : d.params.defaults = []) (hr : Room kk callerA)
    (F : ∀ (w : World) (mg : Str → Option Value) (fa : Addr) (h : Heap), YP w h → h.Ns mainGlobals mg → mg d.name = some (.ref fa) →
      ∃ (K : PySem.W.Frag) (fd : FuncData) (sp : Sp), K.In h ∧ (∀ (s : Shared) (u : Value), BindsTo s fd ⟨[u], []⟩ [(x, u)]) ∧
        (∀ (H : Hp) (a : Addr) (ns : List Int), ns.length ≤ n → L2.Only H → SqL K H a (ns.map V.int) → sp [.ref a] H (fun v _ => v = .bl true) fun _ _ _ => False) ∧
        ∀ base : Heap, K.In base → base.Ns mainGlobals mg → FnG l.prog w K mg base kk fa fd [x] sp) :
    PySem.W.WalkO q loose XP YP l.row.toRowW d [] (fun f vs => PySem.call f vs) := by
  refine Att.attach_call hn hdf fun w _ _ mg _ fa _ _ _ _ a vs ns G Y _ _ _ hmg hobj hints hlen hg => ?_
  obtain ⟨K, fd, sp, KX, hb, hsp, hF⟩ := F w mg fa _ Y G.T.g hmg
  exact law_callG KX G.T.g G.T.b G.T.builtins G.T.nolimit hg hobj hints (Nat.le_trans hlen hn2) hr hF hb fun H hO hS => hsp H a ns hlen hO hS
end DH
set_option maxHeartbeats 4000000
namespace K36
open PySem PySem.Spec PyProof.Rows L2 DL DH He
variable {P : Program} {w : World} {K : PySem.W.Frag} {mg : Str → Option Value} {base : Heap}
structure Facts (K : PySem.W.Frag) (mg : Str → Option Value) (C : Addr) : Prop where
  d_is_integer : Stands K mg "is_integer" s_is_integer
  d_is_count : Stands K mg "is_count" s_is_count
  d_is_list : Stands K mg "is_list" s_is_list
  d_digits_of : Stands K mg "digits_of" s_digits_of
  d_common_part : Stands K mg "common_part" s_common_part
  d_told_pair : Stands K mg "told_pair" s_told_pair
  d_is_number : Stands K mg "is_number" s_is_number
  d_ratio_of : Stands K mg "ratio_of" s_ratio_of
  d_wholes : Stands K mg "wholes" s_wholes
  d_total_of : Stands K mg "total_of" s_total_of
  d_are_numbers : Stands K mg "are_numbers" s_are_numbers
  d_ratios_of : Stands K mg "ratios_of" s_ratios_of
  d_plain_row : Stands K mg "plain_row" s_plain_row
  d_ints_of : Stands K mg "ints_of" s_ints_of
  d_cleared : Stands K mg "cleared" s_cleared
  d_first_at : Stands K mg "first_at" s_first_at
  d_int_rank : Stands K mg "int_rank" s_int_rank
  d_are_lists : Stands K mg "are_lists" s_are_lists
  d_want_lists : Stands K mg "want_lists" s_want_lists
  d_are_weights : Stands K mg "are_weights" s_are_weights
  d_want_weights : Stands K mg "want_weights" s_want_weights
  d_is_lot_of : Stands K mg "is_lot_of" s_is_lot_of
  d_want_lot : Stands K mg "want_lot" s_want_lot
  d_lots_of : Stands K mg "lots_of" s_lots_of
  d_rank_in : Stands K mg "rank_in" s_rank_in
  d_bases_in : Stands K mg "bases_in" s_bases_in
  d_weight_in : Stands K mg "weight_in" s_weight_in
  d_excess_in : Stands K mg "excess_in" s_excess_in
  d_is_lists : Stands K mg "is_lists" s_is_lists
  d_is_weights : Stands K mg "is_weights" s_is_weights
  d_is_lot : Stands K mg "is_lot" s_is_lot
  d_lot_rank : Stands K mg "lot_rank" s_lot_rank
  d_bases : Stands K mg "bases" s_bases
  d_excess : Stands K mg "excess" s_excess
  d__law_pot : Stands K mg "_law_pot" s__law_pot
  d__law_draw : Stands K mg "_law_draw" s__law_draw
  d__law_pick : Stands K mg "_law_pick" s__law_pick
  d__law_frac : Stands K mg "_law_frac" s__law_frac
  d__law_plus : Stands K mg "_law_plus" s__law_plus
  d__law_times : Stands K mg "_law_times" s__law_times
  d__law_sum : Stands K mg "_law_sum" s__law_sum
  d__law_ratio : Stands K mg "_law_ratio" s__law_ratio
  d__law_of : Stands K mg "_law_of" s__law_of
  d__law_less : Stands K mg "_law_less" s__law_less
  d__law_put_out : Stands K mg "_law_put_out" s__law_put_out
  d__law_rank : Stands K mg "_law_rank" s__law_rank
  d__law_lists : Stands K mg "_law_lists" s__law_lists
  d__law_plain : Stands K mg "_law_plain" s__law_plain
  d__law_weights : Stands K mg "_law_weights" s__law_weights
  d__law_handed : Stands K mg "_law_handed" s__law_handed
  d__law_lots : Stands K mg "_law_lots" s__law_lots
  d__law_lot_rank : Stands K mg "_law_lot_rank" s__law_lot_rank
  d__law_bases : Stands K mg "_law_bases" s__law_bases
  d__law_weight : Stands K mg "_law_weight" s__law_weight
  d__law_excess : Stands K mg "_law_excess" s__law_excess
  d__law_is_lot : Stands K mg "_law_is_lot" s__law_is_lot
  d__law_bent : Stands K mg "_law_bent" s__law_bent
  d__law_is_number : Stands K mg "_law_is_number" s__law_is_number
  d__law_are_lists : Stands K mg "_law_are_lists" s__law_are_lists
  d__law_are_weights : Stands K mg "_law_are_weights" s__law_are_weights
  d__law_values_right : Stands K mg "_law_values_right" s__law_values_right
  d__law_right : Stands K mg "_law_right" s__law_right
  d_law : Stands K mg "law" s_law
  p_top : PStE K C "top" "Ratio.top" s_Rt_top
  p_bottom : PStE K C "bottom" "Ratio.bottom" s_Rt_bottom
  p_sign : PStE K C "sign" "Ratio.sign" s_Rt_sign
  m_neg : MStE K C "__neg__" "Ratio.__neg__" s_Rt_neg
  m_eq : MStE K C "__eq__" "Ratio.__eq__" s_Rt_eq
  m_repr : MStE K C "__repr__" "Ratio.__repr__" s_Rt_repr
  o_add : OStE K C .Add "Ratio.__add__" "__add__" s_Rt_add
  o_sub : OStE K C .Sub "Ratio.__sub__" "__sub__" s_Rt_sub
  o_mul : OStE K C .Mult "Ratio.__mul__" "__mul__" s_Rt_mul
  init : ∃ f fd, FnI K f fd ∧ L2.Mk K C f
  ne : PySem.W.findIn K (.ref C) "__ne__" = some (some (.builtin "object.__ne__"))
theorem mk_right {C : Addr} (hC : clsM mg = C) (T : Tops P w K mg base) (f : Facts K mg C) : DfnR P w K mg base "_law_right" 14 ["pot"] d__law_right := by
  subst hC
  have G__law_draw := df__law_draw T f.d__law_draw
  have PK := pk__law_pick T f.d__law_pick G__law_draw
  have G__law_lists := df__law_lists T f.d__law_lists G__law_draw PK
  obtain ⟨q_top, g_top, fd_top, pr_top, F_top⟩ := f.p_top
  have P_top := mk_prp pr_top (fm_Rt_top T  F_top)
  obtain ⟨q_bottom, g_bottom, fd_bottom, pr_bottom, F_bottom⟩ := f.p_bottom
  have P_bottom := mk_prp pr_bottom (fm_Rt_bottom T  F_bottom)
  have G__law_of := df__law_of T f.d__law_of P_top P_bottom
  have G__law_plain := df__law_plain T f.d__law_plain G__law_of
  have G__law_frac := df__law_frac T f.d__law_frac 
  have G__law_weights := df__law_weights T f.d__law_weights PK G__law_draw G__law_frac
  have G_is_integer := df_is_integer T f.d_is_integer 
  have G_common_part := df_common_part T f.d_common_part 
  obtain ⟨fi, fdi, Fi, Mi⟩ := f.init
  have MK : Mkr P w K mg base 2 := mk_ratio T Fi Mi G_is_integer G_common_part
  have G__law_ratio := df__law_ratio T f.d__law_ratio MK
  have G__law_handed := df__law_handed T f.d__law_handed G__law_ratio
  have G__law_plus := df__law_plus T f.d__law_plus G__law_frac
  have G__law_times := df__law_times T f.d__law_times G__law_frac
  have G__law_less := df__law_less T f.d__law_less G__law_frac G__law_plus G__law_times
  have G__law_put_out := df__law_put_out T f.d__law_put_out G__law_less
  have G__law_rank := df__law_rank T f.d__law_rank G__law_put_out
  have G__law_lots := df__law_lots T f.d__law_lots 
  have G__law_lot_rank := df__law_lot_rank T f.d__law_lot_rank G__law_rank
  have G__law_bases := df__law_bases T f.d__law_bases G__law_rank G__law_lots G__law_lot_rank
  have G_digits_of := df_digits_of T f.d_digits_of 
  obtain ⟨g_repr, fd_repr, S_repr⟩ := f.m_repr
  have R_repr := mk_rpr S_repr (fm_Rt_repr T G_digits_of S_repr.fn)
  have G_first_at := df_first_at T f.d_first_at 
  have G_plain_row := df_plain_row T f.d_plain_row G_common_part
  have G_cleared := df_cleared T f.d_cleared G_plain_row
  have G_int_rank := df_int_rank T f.d_int_rank G_first_at G_cleared
  have G_lots_of := df_lots_of T f.d_lots_of 
  have G_rank_in := df_rank_in T f.d_rank_in G_int_rank
  have G_bases_in := df_bases_in T f.d_bases_in G_int_rank G_lots_of G_rank_in
  have G_is_list := df_is_list T f.d_is_list 
  have G_is_number := df_is_number T f.d_is_number G_is_integer
  have G_are_numbers := df_are_numbers T f.d_are_numbers G_is_number G_is_list
  have G_wholes := df_wholes T f.d_wholes 
  have G_ratio_of := df_ratio_of T f.d_ratio_of MK
  have G_ratios_of := df_ratios_of T f.d_ratios_of G_ratio_of
  have G_ints_of := df_ints_of T f.d_ints_of G_wholes G_ratios_of
  have G_are_lists := df_are_lists T f.d_are_lists G_is_list G_are_numbers G_int_rank G_ints_of
  have G_want_lists := df_want_lists T f.d_want_lists G_are_lists G_ints_of
  have G_bases := df_bases T f.d_bases G_bases_in G_want_lists
  have W_bases_0_lists := wW_bases_0_lists T f.d_bases G_bases_in G_want_lists
  have G__law_sum := df__law_sum T f.d__law_sum G__law_plus
  have G__law_weight := df__law_weight T f.d__law_weight G__law_sum
  have G__law_excess := df__law_excess T f.d__law_excess G__law_times G__law_weight G__law_rank G__law_plus G__law_sum G__law_lot_rank
  have G_is_count := df_is_count T f.d_is_count G_is_integer
  have G_is_lot_of := df_is_lot_of T f.d_is_lot_of G_is_count G_is_list
  have G_want_lot := df_want_lot T f.d_want_lot G_is_lot_of
  have G_lot_rank := df_lot_rank T f.d_lot_rank G_want_lists G_rank_in G_want_lot
  have W_lot_rank_0_lot_lists := wW_lot_rank_0_lot_lists T f.d_lot_rank G_want_lists G_rank_in G_want_lot
  obtain ⟨q_sign, g_sign, fd_sign, pr_sign, F_sign⟩ := f.p_sign
  have P_sign := mk_prp pr_sign (fm_Rt_sign T  F_sign)
  have G_are_weights := df_are_weights T f.d_are_weights G_ratios_of P_sign G_are_numbers
  have G_want_weights := df_want_weights T f.d_want_weights G_are_weights G_ratios_of
  have G_told_pair := df_told_pair T f.d_told_pair G_is_integer
  obtain ⟨g_add, fd_add, rc_add, S_add⟩ := f.o_add
  have B_add := mk_bop S_add (fm_Rt_add T G_told_pair MK S_add.fn)
  have G_total_of := df_total_of T f.d_total_of MK B_add
  have G_weight_in := df_weight_in T f.d_weight_in G_total_of
  obtain ⟨g_mul, fd_mul, rc_mul, S_mul⟩ := f.o_mul
  have B_mul := mk_bop S_mul (fm_Rt_mul T G_told_pair MK S_mul.fn)
  obtain ⟨g_sub, fd_sub, rc_sub, S_sub⟩ := f.o_sub
  have B_sub := mk_bop S_sub (fm_Rt_sub T G_told_pair MK S_sub.fn)
  have G_excess_in := df_excess_in T f.d_excess_in G_weight_in G_int_rank B_mul G_total_of G_rank_in B_sub
  have G_excess := df_excess T f.d_excess G_want_lists G_want_weights G_excess_in G_want_lot
  have W_excess_0_lot_weights_lists := wW_excess_0_lot_weights_lists T f.d_excess G_want_lists G_want_weights G_excess_in G_want_lot
  obtain ⟨g_eq, fd_eq, S_eq⟩ := f.m_eq
  have Q_eq := mk_eqo S_eq (fm_Rt_eq T  S_eq.fn)
  have N_eq := mk_neo Q_eq f.ne T.R
  obtain ⟨g_neg, fd_neg, S_neg⟩ := f.m_neg
  have U_neg := mk_neg S_neg (fm_Rt_neg T MK S_neg.fn)
  have G__law_bent := df__law_bent T f.d__law_bent G__law_draw B_add MK B_sub U_neg P_top P_bottom PK
  have G__law_is_number := df__law_is_number T f.d__law_is_number 
  have G__law_are_lists := df__law_are_lists T f.d__law_are_lists G__law_is_number G__law_of
  have G_is_lists := df_is_lists T f.d_is_lists G_are_lists
  have W_is_lists_0_value := wW_is_lists_0_value T f.d_is_lists G_are_lists
  have G__law_are_weights := df__law_are_weights T f.d__law_are_weights G__law_is_number G__law_of
  have G_is_weights := df_is_weights T f.d_is_weights G_are_weights G_want_lists
  have W_is_weights_0_value_lists := wW_is_weights_0_value_lists T f.d_is_weights G_are_weights G_want_lists
  have G__law_is_lot := df__law_is_lot T f.d__law_is_lot 
  have G_is_lot := df_is_lot T f.d_is_lot G_is_lot_of G_want_lists
  have W_is_lot_0_value_lists := wW_is_lot_0_value_lists T f.d_is_lot G_is_lot_of G_want_lists
  have G__law_values_right := df__law_values_right T f.d__law_values_right G__law_bent G__law_are_lists G_is_lists W_is_lists_0_value R_repr G__law_are_weights G_is_weights W_is_weights_0_value_lists G__law_is_lot G_is_lot W_is_lot_0_value_lists
  have G__law_right := df__law_right T f.d__law_right G__law_lists G__law_plain G__law_weights G__law_handed G__law_bases R_repr G_bases W_bases_0_lists G__law_lots PK G__law_lot_rank G__law_ratio G__law_excess G_lot_rank W_lot_rank_0_lot_lists G_excess W_excess_0_lot_weights_lists N_eq MK G__law_values_right
  exact G__law_right
/-! ### the head -/
def fcs0 : List FB := [fGlo "is_integer", fGlo "is_count", fGlo "is_list", fGlo "digits_of", fGlo "common_part", fGlo "told_pair", fGlo "is_number", fGlo "ratio_of", fGlo "wholes", fGlo "total_of", fGlo "are_numbers", fGlo "ratios_of", fGlo "plain_row", fGlo "ints_of", fGlo "cleared", fGlo "first_at", fGlo "int_rank", fGlo "are_lists", fGlo "want_lists", fGlo "are_weights", fGlo "want_weights", fGlo "is_lot_of", fGlo "want_lot", fGlo "lots_of", fGlo "rank_in", fGlo "bases_in", fGlo "weight_in", fGlo "excess_in", fGlo "is_lists", fGlo "is_weights"]
def fcs1 : List FB := [fGlo "is_lot", fGlo "lot_rank", fGlo "bases", fGlo "excess", fGlo "_law_pot", fGlo "_law_draw", fGlo "_law_pick", fGlo "_law_frac", fGlo "_law_plus", fGlo "_law_times", fGlo "_law_sum", fGlo "_law_ratio", fGlo "_law_of", fGlo "_law_less", fGlo "_law_put_out", fGlo "_law_rank", fGlo "_law_lists", fGlo "_law_plain", fGlo "_law_weights", fGlo "_law_handed", fGlo "_law_lots", fGlo "_law_lot_rank", fGlo "_law_bases", fGlo "_law_weight", fGlo "_law_excess", fGlo "_law_is_lot", fGlo "_law_bent", fGlo "_law_is_number", fGlo "_law_are_lists", fGlo "_law_are_weights"]
def fcs2 : List FB := [fGlo "_law_values_right", fGlo "_law_right", fGlo "law", fProp "Ratio" "top", fProp "Ratio" "bottom", fProp "Ratio" "sign", fMeth "Ratio" "__neg__", fMeth "Ratio" "__eq__", fMeth "Ratio" "__repr__", fOp "Ratio" .Add "__add__", fOp "Ratio" .Sub "__sub__", fOp "Ratio" .Mult "__mul__", fMk "Ratio", fFind "Ratio" "__ne__" "object.__ne__", fGlo "Ratio", fRat "Ratio", fFree "abs", fFree "all", fFree "any", fFree "bool", fFree "divmod", fFree "enumerate", fBi "gcd" "math.gcd", fFree "int", fFree "isinstance", fBi "lcm" "math.lcm", fFree "len", fFree "list", fFree "max", fFree "min"]
def fcs3 : List FB := [fFree "range", fFree "repr", fFree "set", fFree "sorted", fFree "tuple", fFree "zip", fInt "MOST_LISTS" c_MOST_LISTS, fInt "MOST_LONG" c_MOST_LONG, fInt "PART" c_PART]
def fcs : List FB := fcs0 ++ fcs1 ++ fcs2 ++ fcs3
def fns0 : List DR := [⟨.glo "is_integer", "is_integer", "is_integer", s_is_integer, []⟩, ⟨.glo "is_count", "is_count", "is_count", s_is_count, []⟩, ⟨.glo "is_list", "is_list", "is_list", s_is_list, []⟩, ⟨.glo "digits_of", "digits_of", "digits_of", s_digits_of, []⟩, ⟨.glo "common_part", "common_part", "common_part", s_common_part, []⟩, ⟨.glo "told_pair", "told_pair", "told_pair", s_told_pair, []⟩, ⟨.glo "is_number", "is_number", "is_number", s_is_number, []⟩, ⟨.glo "ratio_of", "ratio_of", "ratio_of", s_ratio_of, []⟩, ⟨.glo "wholes", "wholes", "wholes", s_wholes, []⟩, ⟨.glo "total_of", "total_of", "total_of", s_total_of, []⟩, ⟨.glo "are_numbers", "are_numbers", "are_numbers", s_are_numbers, []⟩, ⟨.glo "ratios_of", "ratios_of", "ratios_of", s_ratios_of, []⟩, ⟨.glo "plain_row", "plain_row", "plain_row", s_plain_row, []⟩, ⟨.glo "ints_of", "ints_of", "ints_of", s_ints_of, []⟩, ⟨.glo "cleared", "cleared", "cleared", s_cleared, []⟩, ⟨.glo "first_at", "first_at", "first_at", s_first_at, []⟩, ⟨.glo "int_rank", "int_rank", "int_rank", s_int_rank, []⟩, ⟨.glo "are_lists", "are_lists", "are_lists", s_are_lists, []⟩, ⟨.glo "want_lists", "want_lists", "want_lists", s_want_lists, []⟩, ⟨.glo "are_weights", "are_weights", "are_weights", s_are_weights, []⟩, ⟨.glo "want_weights", "want_weights", "want_weights", s_want_weights, []⟩, ⟨.glo "is_lot_of", "is_lot_of", "is_lot_of", s_is_lot_of, []⟩, ⟨.glo "want_lot", "want_lot", "want_lot", s_want_lot, []⟩, ⟨.glo "lots_of", "lots_of", "lots_of", s_lots_of, []⟩, ⟨.glo "rank_in", "rank_in", "rank_in", s_rank_in, []⟩, ⟨.glo "bases_in", "bases_in", "bases_in", s_bases_in, []⟩, ⟨.glo "weight_in", "weight_in", "weight_in", s_weight_in, []⟩, ⟨.glo "excess_in", "excess_in", "excess_in", s_excess_in, []⟩, ⟨.glo "is_lists", "is_lists", "is_lists", s_is_lists, []⟩, ⟨.glo "is_weights", "is_weights", "is_weights", s_is_weights, []⟩]
def fns1 : List DR := [⟨.glo "is_lot", "is_lot", "is_lot", s_is_lot, []⟩, ⟨.glo "lot_rank", "lot_rank", "lot_rank", s_lot_rank, []⟩, ⟨.glo "bases", "bases", "bases", s_bases, []⟩, ⟨.glo "excess", "excess", "excess", s_excess, []⟩, ⟨.glo "_law_pot", "_law_pot", "_law_pot", s__law_pot, []⟩, ⟨.glo "_law_draw", "_law_draw", "_law_draw", s__law_draw, []⟩, ⟨.glo "_law_pick", "_law_pick", "_law_pick", s__law_pick, []⟩, ⟨.glo "_law_frac", "_law_frac", "_law_frac", s__law_frac, []⟩, ⟨.glo "_law_plus", "_law_plus", "_law_plus", s__law_plus, []⟩, ⟨.glo "_law_times", "_law_times", "_law_times", s__law_times, []⟩, ⟨.glo "_law_sum", "_law_sum", "_law_sum", s__law_sum, []⟩, ⟨.glo "_law_ratio", "_law_ratio", "_law_ratio", s__law_ratio, []⟩, ⟨.glo "_law_of", "_law_of", "_law_of", s__law_of, []⟩, ⟨.glo "_law_less", "_law_less", "_law_less", s__law_less, []⟩, ⟨.glo "_law_put_out", "_law_put_out", "_law_put_out", s__law_put_out, []⟩, ⟨.glo "_law_rank", "_law_rank", "_law_rank", s__law_rank, []⟩, ⟨.glo "_law_lists", "_law_lists", "_law_lists", s__law_lists, []⟩, ⟨.glo "_law_plain", "_law_plain", "_law_plain", s__law_plain, []⟩, ⟨.glo "_law_weights", "_law_weights", "_law_weights", s__law_weights, []⟩, ⟨.glo "_law_handed", "_law_handed", "_law_handed", s__law_handed, []⟩, ⟨.glo "_law_lots", "_law_lots", "_law_lots", s__law_lots, []⟩, ⟨.glo "_law_lot_rank", "_law_lot_rank", "_law_lot_rank", s__law_lot_rank, []⟩, ⟨.glo "_law_bases", "_law_bases", "_law_bases", s__law_bases, []⟩, ⟨.glo "_law_weight", "_law_weight", "_law_weight", s__law_weight, []⟩, ⟨.glo "_law_excess", "_law_excess", "_law_excess", s__law_excess, []⟩, ⟨.glo "_law_is_lot", "_law_is_lot", "_law_is_lot", s__law_is_lot, []⟩, ⟨.glo "_law_bent", "_law_bent", "_law_bent", s__law_bent, []⟩, ⟨.glo "_law_is_number", "_law_is_number", "_law_is_number", s__law_is_number, []⟩, ⟨.glo "_law_are_lists", "_law_are_lists", "_law_are_lists", s__law_are_lists, []⟩, ⟨.glo "_law_are_weights", "_law_are_weights", "_law_are_weights", s__law_are_weights, []⟩]
def fns2 : List DR := [⟨.glo "_law_values_right", "_law_values_right", "_law_values_right", s__law_values_right, []⟩, ⟨.glo "_law_right", "_law_right", "_law_right", s__law_right, []⟩, ⟨.glo "law", "law", "law", s_law, []⟩, ⟨.prop "Ratio" "top", "top", "Ratio.top", s_Rt_top, []⟩, ⟨.prop "Ratio" "bottom", "bottom", "Ratio.bottom", s_Rt_bottom, []⟩, ⟨.prop "Ratio" "sign", "sign", "Ratio.sign", s_Rt_sign, []⟩, ⟨.meth "Ratio" "__neg__", "__neg__", "Ratio.__neg__", s_Rt_neg, []⟩, ⟨.meth "Ratio" "__eq__", "__eq__", "Ratio.__eq__", s_Rt_eq, []⟩, ⟨.meth "Ratio" "__repr__", "__repr__", "Ratio.__repr__", s_Rt_repr, []⟩, ⟨.meth "Ratio" "__add__", "__add__", "Ratio.__add__", s_Rt_add, []⟩, ⟨.meth "Ratio" "__sub__", "__sub__", "Ratio.__sub__", s_Rt_sub, []⟩, ⟨.meth "Ratio" "__mul__", "__mul__", "Ratio.__mul__", s_Rt_mul, []⟩, ⟨.meth "Ratio" "__init__", "__init__", "Ratio.__init__", s_Rt_init, [V.int 1]⟩]
def fns : List DR := fns0 ++ fns1 ++ fns2
def loose0 : List PySem.Str := ["gcd", "lcm", "_wall", "RoomError", "InvalidNumber", "InvalidLists", "InvalidLot", "InvalidWeights", "is_integer", "is_count", "is_list", "PART", "digits_of", "common_part", "Ratio", "told_pair", "is_number", "ratio_of", "wholes", "total_of", "are_numbers", "ratios_of", "plain_row", "ints_of", "cleared", "first_at", "int_rank", "MOST_LISTS", "MOST_LONG", "are_lists"]
def loose1 : List PySem.Str := ["want_lists", "are_weights", "want_weights", "is_lot_of", "want_lot", "lots_of", "rank_in", "bases_in", "weight_in", "excess_in", "is_lists", "is_weights", "is_lot", "lot_rank", "bases", "excess", "_law_pot", "_law_draw", "_law_pick", "_law_frac", "_law_plus", "_law_times", "_law_sum", "_law_ratio", "_law_of", "_law_less", "_law_put_out", "_law_rank", "_law_lists", "_law_plain"]
def loose2 : List PySem.Str := ["_law_weights", "_law_handed", "_law_lots", "_law_lot_rank", "_law_bases", "_law_weight", "_law_excess", "_law_is_lot", "_law_bent", "_law_is_number", "_law_are_lists", "_law_are_weights", "_law_values_right", "_law_right"]
def loose : List PySem.Str := loose0 ++ loose1 ++ loose2
theorem facts_of {h : Heap} (X : K.In h) (G : h.Ns mainGlobals mg) (c : SaysR fcs fns K) : Facts K mg (ga K "Ratio") where
  d_is_integer := stands_ok X G (c.fact (i := 0) rfl) (c.at_ (i := 0) rfl)
  d_is_count := stands_ok X G (c.fact (i := 1) rfl) (c.at_ (i := 1) rfl)
  d_is_list := stands_ok X G (c.fact (i := 2) rfl) (c.at_ (i := 2) rfl)
  d_digits_of := stands_ok X G (c.fact (i := 3) rfl) (c.at_ (i := 3) rfl)
  d_common_part := stands_ok X G (c.fact (i := 4) rfl) (c.at_ (i := 4) rfl)
  d_told_pair := stands_ok X G (c.fact (i := 5) rfl) (c.at_ (i := 5) rfl)
  d_is_number := stands_ok X G (c.fact (i := 6) rfl) (c.at_ (i := 6) rfl)
  d_ratio_of := stands_ok X G (c.fact (i := 7) rfl) (c.at_ (i := 7) rfl)
  d_wholes := stands_ok X G (c.fact (i := 8) rfl) (c.at_ (i := 8) rfl)
  d_total_of := stands_ok X G (c.fact (i := 9) rfl) (c.at_ (i := 9) rfl)
  d_are_numbers := stands_ok X G (c.fact (i := 10) rfl) (c.at_ (i := 10) rfl)
  d_ratios_of := stands_ok X G (c.fact (i := 11) rfl) (c.at_ (i := 11) rfl)
  d_plain_row := stands_ok X G (c.fact (i := 12) rfl) (c.at_ (i := 12) rfl)
  d_ints_of := stands_ok X G (c.fact (i := 13) rfl) (c.at_ (i := 13) rfl)
  d_cleared := stands_ok X G (c.fact (i := 14) rfl) (c.at_ (i := 14) rfl)
  d_first_at := stands_ok X G (c.fact (i := 15) rfl) (c.at_ (i := 15) rfl)
  d_int_rank := stands_ok X G (c.fact (i := 16) rfl) (c.at_ (i := 16) rfl)
  d_are_lists := stands_ok X G (c.fact (i := 17) rfl) (c.at_ (i := 17) rfl)
  d_want_lists := stands_ok X G (c.fact (i := 18) rfl) (c.at_ (i := 18) rfl)
  d_are_weights := stands_ok X G (c.fact (i := 19) rfl) (c.at_ (i := 19) rfl)
  d_want_weights := stands_ok X G (c.fact (i := 20) rfl) (c.at_ (i := 20) rfl)
  d_is_lot_of := stands_ok X G (c.fact (i := 21) rfl) (c.at_ (i := 21) rfl)
  d_want_lot := stands_ok X G (c.fact (i := 22) rfl) (c.at_ (i := 22) rfl)
  d_lots_of := stands_ok X G (c.fact (i := 23) rfl) (c.at_ (i := 23) rfl)
  d_rank_in := stands_ok X G (c.fact (i := 24) rfl) (c.at_ (i := 24) rfl)
  d_bases_in := stands_ok X G (c.fact (i := 25) rfl) (c.at_ (i := 25) rfl)
  d_weight_in := stands_ok X G (c.fact (i := 26) rfl) (c.at_ (i := 26) rfl)
  d_excess_in := stands_ok X G (c.fact (i := 27) rfl) (c.at_ (i := 27) rfl)
  d_is_lists := stands_ok X G (c.fact (i := 28) rfl) (c.at_ (i := 28) rfl)
  d_is_weights := stands_ok X G (c.fact (i := 29) rfl) (c.at_ (i := 29) rfl)
  d_is_lot := stands_ok X G (c.fact (i := 30) rfl) (c.at_ (i := 30) rfl)
  d_lot_rank := stands_ok X G (c.fact (i := 31) rfl) (c.at_ (i := 31) rfl)
  d_bases := stands_ok X G (c.fact (i := 32) rfl) (c.at_ (i := 32) rfl)
  d_excess := stands_ok X G (c.fact (i := 33) rfl) (c.at_ (i := 33) rfl)
  d__law_pot := stands_ok X G (c.fact (i := 34) rfl) (c.at_ (i := 34) rfl)
  d__law_draw := stands_ok X G (c.fact (i := 35) rfl) (c.at_ (i := 35) rfl)
  d__law_pick := stands_ok X G (c.fact (i := 36) rfl) (c.at_ (i := 36) rfl)
  d__law_frac := stands_ok X G (c.fact (i := 37) rfl) (c.at_ (i := 37) rfl)
  d__law_plus := stands_ok X G (c.fact (i := 38) rfl) (c.at_ (i := 38) rfl)
  d__law_times := stands_ok X G (c.fact (i := 39) rfl) (c.at_ (i := 39) rfl)
  d__law_sum := stands_ok X G (c.fact (i := 40) rfl) (c.at_ (i := 40) rfl)
  d__law_ratio := stands_ok X G (c.fact (i := 41) rfl) (c.at_ (i := 41) rfl)
  d__law_of := stands_ok X G (c.fact (i := 42) rfl) (c.at_ (i := 42) rfl)
  d__law_less := stands_ok X G (c.fact (i := 43) rfl) (c.at_ (i := 43) rfl)
  d__law_put_out := stands_ok X G (c.fact (i := 44) rfl) (c.at_ (i := 44) rfl)
  d__law_rank := stands_ok X G (c.fact (i := 45) rfl) (c.at_ (i := 45) rfl)
  d__law_lists := stands_ok X G (c.fact (i := 46) rfl) (c.at_ (i := 46) rfl)
  d__law_plain := stands_ok X G (c.fact (i := 47) rfl) (c.at_ (i := 47) rfl)
  d__law_weights := stands_ok X G (c.fact (i := 48) rfl) (c.at_ (i := 48) rfl)
  d__law_handed := stands_ok X G (c.fact (i := 49) rfl) (c.at_ (i := 49) rfl)
  d__law_lots := stands_ok X G (c.fact (i := 50) rfl) (c.at_ (i := 50) rfl)
  d__law_lot_rank := stands_ok X G (c.fact (i := 51) rfl) (c.at_ (i := 51) rfl)
  d__law_bases := stands_ok X G (c.fact (i := 52) rfl) (c.at_ (i := 52) rfl)
  d__law_weight := stands_ok X G (c.fact (i := 53) rfl) (c.at_ (i := 53) rfl)
  d__law_excess := stands_ok X G (c.fact (i := 54) rfl) (c.at_ (i := 54) rfl)
  d__law_is_lot := stands_ok X G (c.fact (i := 55) rfl) (c.at_ (i := 55) rfl)
  d__law_bent := stands_ok X G (c.fact (i := 56) rfl) (c.at_ (i := 56) rfl)
  d__law_is_number := stands_ok X G (c.fact (i := 57) rfl) (c.at_ (i := 57) rfl)
  d__law_are_lists := stands_ok X G (c.fact (i := 58) rfl) (c.at_ (i := 58) rfl)
  d__law_are_weights := stands_ok X G (c.fact (i := 59) rfl) (c.at_ (i := 59) rfl)
  d__law_values_right := stands_ok X G (c.fact (i := 60) rfl) (c.at_ (i := 60) rfl)
  d__law_right := stands_ok X G (c.fact (i := 61) rfl) (c.at_ (i := 61) rfl)
  d_law := stands_ok X G (c.fact (i := 62) rfl) (c.at_ (i := 62) rfl)
  p_top := pst_ok (c.fact (i := 63) rfl) (c.at_ (i := 63) rfl)
  p_bottom := pst_ok (c.fact (i := 64) rfl) (c.at_ (i := 64) rfl)
  p_sign := pst_ok (c.fact (i := 65) rfl) (c.at_ (i := 65) rfl)
  m_neg := mst_ok (c.fact (i := 66) rfl) (c.at_ (i := 66) rfl)
  m_eq := mst_ok (c.fact (i := 67) rfl) (c.at_ (i := 67) rfl)
  m_repr := mst_ok (c.fact (i := 68) rfl) (c.at_ (i := 68) rfl)
  o_add := ost_ok (c.fact (i := 69) rfl) (c.at_ (i := 69) rfl)
  o_sub := ost_ok (c.fact (i := 70) rfl) (c.at_ (i := 70) rfl)
  o_mul := ost_ok (c.fact (i := 71) rfl) (c.at_ (i := 71) rfl)
  init := ((c.at_ (i := 72) rfl)).elim fun fd F => ⟨_, fd, F, mkr_ok (c.fact (i := 72) rfl)⟩
  ne := find_ok (c.fact (i := 73) rfl)
theorem tops_of {h : Heap} (X : K.In h) (G : h.Ns mainGlobals mg) (c : SaysR fcs fns K) : Tops P w K mg base where
  z_abs := free_ok X G (c.fact (i := 76) rfl)
  z_all := free_ok X G (c.fact (i := 77) rfl)
  z_any := free_ok X G (c.fact (i := 78) rfl)
  z_bool := free_ok X G (c.fact (i := 79) rfl)
  z_divmod := free_ok X G (c.fact (i := 80) rfl)
  z_enumerate := free_ok X G (c.fact (i := 81) rfl)
  z_gcd := bi_ok X G (c.fact (i := 82) rfl)
  z_int := free_ok X G (c.fact (i := 83) rfl)
  z_isinstance := free_ok X G (c.fact (i := 84) rfl)
  z_lcm := bi_ok X G (c.fact (i := 85) rfl)
  z_len := free_ok X G (c.fact (i := 86) rfl)
  z_list := free_ok X G (c.fact (i := 87) rfl)
  z_max := free_ok X G (c.fact (i := 88) rfl)
  z_min := free_ok X G (c.fact (i := 89) rfl)
  z_range := free_ok X G (c.fact (i := 90) rfl)
  z_repr := free_ok X G (c.fact (i := 91) rfl)
  z_set := free_ok X G (c.fact (i := 92) rfl)
  z_sorted := free_ok X G (c.fact (i := 93) rfl)
  z_tuple := free_ok X G (c.fact (i := 94) rfl)
  z_zip := free_ok X G (c.fact (i := 95) rfl)
  c_MOST_LISTS := int_ok X G (c.fact (i := 96) rfl)
  c_MOST_LONG := int_ok X G (c.fact (i := 97) rfl)
  c_PART := int_ok X G (c.fact (i := 98) rfl)
  R := by rw [clsM_ok X G (c.fact (i := 74) rfl)]; exact rat_ok (c.fact (i := 75) rfl)
  m_Ratio := by rw [clsM_ok X G (c.fact (i := 74) rfl)]; exact glo_ok X G (c.fact (i := 74) rfl)
theorem binds_law {f : Addr} {fd : FuncData} (F : L2.Fun K "law" "law" s_law f fd) (s : Shared) (v : Value) : BindsTo s fd ⟨[v], []⟩ [("script", v)] := by
  obtain ⟨oc, od, kV, doc, pm, an, cdv, ct, osl, rfl, _⟩ := F.ex
  exact .of_eq rfl
theorem facts {h : Heap} {f : Addr} (X : K.In h) (G : h.Ns mainGlobals mg) (hfa : mg "law" = some (.ref f)) (c : SaysR fcs fns K) :
    ∃ fd : FuncData, (∀ (s : Shared) (v : Value), BindsTo s fd ⟨[v], []⟩ [("script", v)]) ∧ ∀ base : Heap, FnG P w K mg base 43 f fd ["script"] (spLaw K) := by
  have F := facts_of X G c
  obtain ⟨f1, fd, F1, g1⟩ := F.d_law
  obtain ⟨f2, fdP, F2, g2⟩ := F.d__law_pot
  skip
  obtain rfl : f = f1 := by rw [hfa] at g1; cases g1; rfl
  exact ⟨fd, binds_law F1, fun base => fn_law (tops_of X G c) (mk_right (clsM_ok X G (c.fact (i := 74) rfl)) (tops_of X G c) F) F1 F2 g2⟩
abbrev RR : PySem.W.OpenRow := PySem.W.OpenLaw.row PySem.Challenge.rw_weighedrooms_k36_whole_lots_excesses_and
abbrev hkR : PySem.W.Hook := hookR 6 fcs fns
noncomputable abbrev qv : Program := PySem.W.view RR.prog [0, 79]
noncomputable abbrev eF (w : World) := HandSHeadRun.wholeF (fun p => HandSHeadRun.stepQ (HandSHeadRun.denQ HandSHeadRun.tabQ) p w) HandSHeadRun.fenceQ 6000 RR.prog
theorem run1 (w : World) : (eF w).map (fun x => HandSHeadRun.looksF RR.prog x.1.heap x.2.abs) = some true := by kernel_rfl
theorem run2 (w : World) : (eF w).map (fun x => HandSHeadRun.seenQ qv loose (importedModules RR.prog.main.body) (fun s => PySem.W.xlAt qv [] s && PySem.W.recOk RR.toRowW.records s) x.2.abs) = some (PySem.W.openGood qv loose) := by kernel_rfl
theorem run3 (w : World) : (eF w).map (fun x => (obR 6 fcs fns x.2).1) = some true := by kernel_rfl
theorem run4 (w : World) : (eF w).map (fun x => (obR 6 fcs fns x.2).2) = some (fns.map DR.due) := by kernel_rfl
theorem run (w : World) : HandSHeadRun.RunEqI RR qv hkR (obR 6 fcs fns) 6000 loose w := mapAll (run1 w) (run2 w) (run3 w) (run4 w)
end K36
open PySem PySem.W PySem.Calls PyProof.Rows
set_option maxHeartbeats 0 in
theorem PySem.Challenge.cw_weighedrooms_k36_whole_lots_excesses_and_holds : PySem.Challenge.rw_weighedrooms_k36_whole_lots_excesses_and.Holds := by
  w_on; o_law
  refine HandSHeadRun.head_imp (r := OpenLaw.row PySem.Challenge.rw_weighedrooms_k36_whole_lots_excesses_and) (q := view (OpenLaw.row PySem.Challenge.rw_weighedrooms_k36_whole_lots_excesses_and).prog [0, 79]) (H := K36.hkR) (ob := DH.obR 6 K36.fcs K36.fns) (M := 6000) (loose := K36.loose) (d := HandSHeadRun.topDef (OpenLaw.row PySem.Challenge.rw_weighedrooms_k36_whole_lots_excesses_and).prog 79) (kwd := []) (DH.obR_eq _ _ _)
    K36.run (by kernel_rfl) (by kernel_rfl) (by kernel_rfl) (by rfl) (by first | assumption | decide +kernel) (by decide +kernel) ⟨rfl, rfl, rfl, rfl, rfl, by decide +kernel⟩ ?hw ?hc
  case hw => w_witness2
  case hc =>
    refine DH.walkGE (l := PySem.Challenge.rw_weighedrooms_k36_whole_lots_excesses_and) (n := 63) (kk := 43) (x := "script") rfl (by decide) (by kernel_rfl) ⟨rfl, by decide, by decide⟩ ?F
    intro w mg fa h Y G hmg0
    obtain ⟨K, KX, c⟩ := Y
    have hmg : mg ("law" : PySem.Str) = some (.ref fa) := by
      have e : (HandSHeadRun.topDef (OpenLaw.row PySem.Challenge.rw_weighedrooms_k36_whole_lots_excesses_and).prog 79).name = ("law" : PySem.Str) := by kernel_rfl
      rw [← e]
      exact hmg0
    obtain ⟨fd, hb, hF⟩ := K36.facts (P := (PySem.Challenge.rw_weighedrooms_k36_whole_lots_excesses_and).prog) (w := w) KX G hmg c
    exact ⟨K, fd, K36.spLaw K, KX, hb, fun H a ns hl hO hS => ⟨a, ns, rfl, hS, hl, fun b => (hO b).imp id fun ⟨o, xs, z⟩ => ⟨o, _, z⟩, fun _ => rfl⟩, fun base _ _ => hF base⟩
