import PyProof.Rows.All
import Wide.All
import OpenK.AllK
import Wide.FinOn
import HandS.ForMost
import HandS.Exc
import HandS.WordsExc
import HandS.Wide
import HandS.Flow
import HandS.TupAny
import HandS.TupLe
import HandS.Defaults
import HandS.Text
import HandS.WideBits
import HandS.IsInst
import PyProof.P3Eq
import PyProof.NeData
import KE.KStateDown
import HandS.HeadEnd
import HandS.Head2
import HandS.HeadHook2
import PyProof.ReprLen
import PyProof.ReprRoads
import HandS.Dict
import PySem.Challenge.RW_neverlost_k10_names_and_moves
set_option Elab.async false
set_option linter.all false
set_option maxRecDepth 100000
set_option maxHeartbeats 0
/-! data as trees, what stands for them, runs over them -/
namespace EL
open PySem PySem.Spec L2

abbrev SS := L2.St
/-! ### data -/
inductive D where
  | non | bl (b : Bool) | int (i : Int) | str (s : Str)
  | lst (ds : List D) | tup (ds : List D) | dct (kvs : List (Key × D)) | ins (c : Nat) (fs : List (Str × D)) | cell (n : Nat)
  deriving Inhabited

/-- what is fixed through a law -/
structure Glob where
  P : Program
  w : World
  K : PySem.W.Frag
  mg : Str → Option Value
  ca : Nat → Addr

def KL (K : PySem.W.Frag) (a : Addr) (xs : List V) : Prop :=
  ∃ (o : Obj) (its : Array Value) (n : Nat), K.lookup a = some o ∧ o.cls = .type "list" ∧ o.dict = none ∧ o.data = .seq its n ∧ its.size ≤ sizeLine ∧ Vals xs its.toList
def KT (K : PySem.W.Frag) (a : Addr) (xs : List V) : Prop :=
  ∃ (o : Obj) (its : Array Value) (n : Nat), K.lookup a = some o ∧ o.cls = .type "tuple" ∧ o.data = .seq its n ∧ its.size ≤ sizeLine ∧ Vals xs its.toList

mutual
/-- v stands for d: S the part of the heap that never changes, mu where the cells lie -/
inductive Rp (g : Glob) (S : Hp) (mu : List Addr) : V → D → Prop
  | non : Rp g S mu .non .non
  | bl (b : Bool) : Rp g S mu (.bl b) (.bl b)
  | int (i : Int) : Rp g S mu (.int i) (.int i)
  | str (x : Str) : Rp g S mu (.str x) (.str x)
  | lst {a : Addr} {vs : List V} {ds : List D} : S a = some (.lst vs) ∨ KL g.K a vs → RpL g S mu vs ds → Rp g S mu (.ref a) (.lst ds)
  | tup {a : Addr} {vs : List V} {ds : List D} : S a = some (.tup vs) ∨ KT g.K a vs → RpL g S mu vs ds → Rp g S mu (.ref a) (.tup ds)
  | dct {a : Addr} {vs : List (Key × V)} {ds : List (Key × D)} : S a = some (.dK vs) → RpK g S mu vs ds → Rp g S mu (.ref a) (.dct ds)
  | ins {a dx : Addr} {c : Nat} {vs : List (Str × V)} {ds : List (Str × D)} : S a = some (.ins (g.ca c) dx vs) → RpF g S mu vs ds → Rp g S mu (.ref a) (.ins c ds)
  | cell {a : Addr} {n : Nat} : mu[n]? = some a → Rp g S mu (.ref a) (.cell n)
inductive RpL (g : Glob) (S : Hp) (mu : List Addr) : List V → List D → Prop
  | nil : RpL g S mu [] []
  | cons {v : V} {vs : List V} {d : D} {ds : List D} : Rp g S mu v d → RpL g S mu vs ds → RpL g S mu (v :: vs) (d :: ds)
inductive RpK (g : Glob) (S : Hp) (mu : List Addr) : List (Key × V) → List (Key × D) → Prop
  | nil : RpK g S mu [] []
  | cons {k : Key} {v : V} {vs : List (Key × V)} {d : D} {ds : List (Key × D)} : Rp g S mu v d → RpK g S mu vs ds → RpK g S mu ((k, v) :: vs) ((k, d) :: ds)
inductive RpF (g : Glob) (S : Hp) (mu : List Addr) : List (Str × V) → List (Str × D) → Prop
  | nil : RpF g S mu [] []
  | cons {k : Str} {v : V} {vs : List (Str × V)} {d : D} {ds : List (Str × D)} : Rp g S mu v d → RpF g S mu vs ds → RpF g S mu ((k, v) :: vs) ((k, d) :: ds)
end

structure Mo (S : Hp) (mu : List Addr) (S' : Hp) (mu' : List Addr) : Prop where
  s : ∀ b u, S b = some u → S' b = some u
  m : ∀ (i : Nat) (a : Addr), mu[i]? = some a → mu'[i]? = some a
theorem Mo.refl {S mu} : Mo S mu S mu := ⟨fun _ _ h => h, fun _ _ h => h⟩
theorem Mo.trans {S mu S1 mu1 S2 mu2} (a : Mo S mu S1 mu1) (b : Mo S1 mu1 S2 mu2) : Mo S mu S2 mu2 := ⟨fun x u h => b.s x u (a.s x u h), fun i x h => b.m i x (a.m i x h)⟩
theorem Mo.new {S : Hp} {mu} {p : Addr} {o : HO} (h : S p = none) : Mo S mu (upd S p o) mu := ⟨fun b u e => by
  rw [upd_ne (ne_of_none e h)]; exact e, fun _ _ h => h⟩
section
variable {g : Glob} {S S' : Hp} {mu mu' : List Addr}
mutual
theorem Rp.mono (m : Mo S mu S' mu') : ∀ {v d}, Rp g S mu v d → Rp g S' mu' v d
  | _, _, .non => .non
  | _, _, .bl b => .bl b
  | _, _, .int b => .int b
  | _, _, .str b => .str b
  | _, _, .lst h r => .lst (h.imp (m.s _ _) id) (RpL.mono m r)
  | _, _, .tup h r => .tup (h.imp (m.s _ _) id) (RpL.mono m r)
  | _, _, .dct h r => .dct (m.s _ _ h) (RpK.mono m r)
  | _, _, .ins h r => .ins (m.s _ _ h) (RpF.mono m r)
  | _, _, .cell h => .cell (m.m _ _ h)
theorem RpL.mono (m : Mo S mu S' mu') : ∀ {v d}, RpL g S mu v d → RpL g S' mu' v d
  | _, _, .nil => .nil
  | _, _, .cons h r => .cons (Rp.mono m h) (RpL.mono m r)
theorem RpK.mono (m : Mo S mu S' mu') : ∀ {v d}, RpK g S mu v d → RpK g S' mu' v d
  | _, _, .nil => .nil
  | _, _, .cons h r => .cons (Rp.mono m h) (RpK.mono m r)
theorem RpF.mono (m : Mo S mu S' mu') : ∀ {v d}, RpF g S mu v d → RpF g S' mu' v d
  | _, _, .nil => .nil
  | _, _, .cons h r => .cons (Rp.mono m h) (RpF.mono m r)
end
theorem RpL.length : ∀ {vs ds}, RpL g S mu vs ds → vs.length = ds.length
  | _, _, .nil => rfl
  | _, _, .cons _ r => by simp [RpL.length r]
theorem RpL.get : ∀ {vs ds} {i : Nat} {d : D}, RpL g S mu vs ds → ds[i]? = some d → ∃ v, vs[i]? = some v ∧ Rp g S mu v d
  | _, _, _, _, .nil, e => by simp at e
  | _, _, 0, _, .cons r _, e => by simp at e; subst e; exact ⟨_, rfl, r⟩
  | _, _, i + 1, _, .cons _ t, e => by
    obtain ⟨v, h1, h2⟩ := RpL.get (i := i) t (by simpa using e)
    exact ⟨v, by simpa using h1, h2⟩
theorem RpL.getV : ∀ {vs ds} {i : Nat} {v : V}, RpL g S mu vs ds → vs[i]? = some v → ∃ d, ds[i]? = some d ∧ Rp g S mu v d
  | _, _, _, _, .nil, e => by simp at e
  | _, _, 0, _, .cons r _, e => by simp at e; subst e; exact ⟨_, rfl, r⟩
  | _, _, i + 1, _, .cons _ t, e => by
    obtain ⟨v, h1, h2⟩ := RpL.getV (i := i) t (by simpa using e)
    exact ⟨v, by simpa using h1, h2⟩
theorem RpL.append : ∀ {vs ds ws es}, RpL g S mu vs ds → RpL g S mu ws es → RpL g S mu (vs ++ ws) (ds ++ es)
  | _, _, _, _, .nil, s => s
  | _, _, _, _, .cons h r, s => .cons h (RpL.append r s)
theorem RpL.take : ∀ {vs ds} (n : Nat), RpL g S mu vs ds → RpL g S mu (vs.take n) (ds.take n)
  | _, _, 0, _ => .nil
  | _, _, _ + 1, .nil => .nil
  | _, _, n + 1, .cons h r => .cons h (RpL.take n r)
theorem RpL.drop : ∀ {vs ds} (n : Nat), RpL g S mu vs ds → RpL g S mu (vs.drop n) (ds.drop n)
  | _, _, 0, r => r
  | _, _, _ + 1, .nil => .nil
  | _, _, n + 1, .cons _ r => RpL.drop n r
theorem RpL.set {x : V} {d : D} (r : Rp g S mu x d) : ∀ {vs ds} (i : Nat), RpL g S mu vs ds → RpL g S mu (vs.set i x) (ds.set i d)
  | _, _, _, .nil => .nil
  | _, _, 0, .cons _ t => .cons r t
  | _, _, i + 1, .cons q t => .cons q (RpL.set r i t)
theorem RpL.reverse : ∀ {vs ds}, RpL g S mu vs ds → RpL g S mu vs.reverse ds.reverse
  | _, _, .nil => .nil
  | _, _, .cons h r => by
    rw [List.reverse_cons, List.reverse_cons]
    exact RpL.append (RpL.reverse r) (.cons h .nil)
theorem RpK.length : ∀ {vs ds}, RpK g S mu vs ds → vs.length = ds.length
  | _, _, .nil => rfl
  | _, _, .cons _ r => by simp [RpK.length r]
end

/-! ### slots, results -/
inductive Slot where
  | no
  | fz (d : D)
  | ow (d : D)
  deriving Inhabited
abbrev Env := List Slot
abbrev Cells := List D
inductive R (α : Type) where
  | ok (a : α) (e : Env) (c : Cells)
  | exc (k : Nat) (fs : List (Str × D)) (e : Env) (c : Cells)
  | stuck
abbrev M (α : Type) := Env → Cells → R α
def M.bind {α β : Type} (m : M α) (f : α → M β) : M β := fun e c => match m e c with
  | .ok a e' c' => f a e' c'
  | .exc k fs e' c' => .exc k fs e' c'
  | .stuck => .stuck
def M.pure {α : Type} (a : α) : M α := fun e c => .ok a e c
def M.stuck {α : Type} : M α := fun _ _ => .stuck
/-- of an Option -/
def M.opt {α : Type} (o : Option α) : M α := fun e c => match o with
  | some a => .ok a e c
  | none => .stuck

/-- what stands at an own or a cell's address a -/
def At (g : Glob) (H S : Hp) (mu : List Addr) (a : Addr) : D → Prop
  | .lst ds => ∃ vs, H a = some (.lst vs) ∧ RpL g S mu vs ds
  | .dct ds => ∃ vs, H a = some (.dK vs) ∧ RpK g S mu vs ds
  | .ins c ds => ∃ dx vs, H a = some (.ins (g.ca c) dx vs) ∧ RpF g S mu vs ds
  | _ => False
theorem At.keep {g : Glob} {H H' S S' : Hp} {mu mu' : List Addr} {a : Addr} {d : D} (x : At g H S mu a d) (m : Mo S mu S' mu') (h : ∀ o, H a = some o → H' a = some o) : At g H' S' mu' a d := by
  cases d <;> first | exact x.elim | skip
  · obtain ⟨vs, e, r⟩ := x; exact ⟨vs, h _ e, r.mono m⟩
  · obtain ⟨vs, e, r⟩ := x; exact ⟨vs, h _ e, r.mono m⟩
  · obtain ⟨dx, vs, e, r⟩ := x; exact ⟨dx, vs, h _ e, r.mono m⟩
theorem At.has {g : Glob} {H S : Hp} {mu : List Addr} {a : Addr} {d : D} (x : At g H S mu a d) : ∃ o, H a = some o := by
  cases d <;> first | exact x.elim | skip
  · obtain ⟨vs, e, r⟩ := x; exact ⟨_, e⟩
  · obtain ⟨vs, e, r⟩ := x; exact ⟨_, e⟩
  · obtain ⟨dx, vs, e, r⟩ := x; exact ⟨_, e⟩
/-- frozen: from At to Rp -/
theorem At.fz {g : Glob} {H S : Hp} {mu : List Addr} {a : Addr} {d : D} (x : At g H S mu a d) (hn : S a = none) : ∃ o, H a = some o ∧ Rp g (upd S a o) mu (.ref a) d := by
  cases d <;> first | exact x.elim | skip
  · obtain ⟨vs, e, r⟩ := x; exact ⟨_, e, .lst (.inl upd_same) (r.mono (Mo.new hn))⟩
  · obtain ⟨vs, e, r⟩ := x; exact ⟨_, e, .dct upd_same (r.mono (Mo.new hn))⟩
  · obtain ⟨dx, vs, e, r⟩ := x; exact ⟨_, e, .ins upd_same (r.mono (Mo.new hn))⟩

structure HS (g : Glob) (H S : Hp) (mu : List Addr) (cs : Cells) : Prop where
  sub : ∀ b u, S b = some u → Rd H b u
  len : mu.length = cs.length
  nd : mu.Nodup
  cell : ∀ (i : Nat) (a : Addr) (c : D), mu[i]? = some a → cs[i]? = some c → S a = none ∧ At g H S mu a c

structure Ent where
  H : Hp
  S : Hp
  mu : List Addr
  lk : List (Addr × Obj × HO)
  rs : List Addr
/-- from the entry on -/
structure FI (F : Ent) (H S : Hp) (mu : List Addr) : Prop where
  mo : Mo F.S F.mu S mu
  h : ∀ b o, F.H b = some o → b ∉ F.mu → H b = some o
  n : ∀ b, b ∈ mu → b ∈ F.mu ∨ F.H b = none
  t : ∀ b u, S b = some u → F.S b = some u ∨ F.H b = none
  l : ∀ p ∈ F.lk, H p.1 = some (.frz p.2.1 p.2.2)
  r : ∀ a ∈ F.rs, S a = none ∧ a ∉ mu ∧ F.H a = none ∧ ∃ o, H a = some o

structure Rel (g : Glob) (F : Ent) (σ : SS) (H S : Hp) (mu : List Addr) (env : Env) (cs : Cells) : Prop where
  hs : HS g H S mu cs
  fi : FI F H S mu
  len : env.length = σ.length
  fz : ∀ (i : Nat) d, env[i]? = some (.fz d) → ∃ v, σ[i]? = some (some v) ∧ Rp g S mu v d
  ow : ∀ (i : Nat) d, env[i]? = some (.ow d) → ∃ a, σ[i]? = some (some (.ref a)) ∧ S a = none ∧ a ∉ mu ∧ (F.H a = none ∧ a ∉ F.rs) ∧ At g H S mu a d
  sep : ∀ (i j : Nat) d d' a, env[i]? = some (.ow d) → env[j]? = some (.ow d') → σ[i]? = some (some (.ref a)) → σ[j]? = some (some (.ref a)) → i = j

/-- one step to the next: what was frozen stays, what is tracked and no cell stays -/
structure Gr (H S : Hp) (mu : List Addr) (H' S' : Hp) (mu' : List Addr) : Prop where
  mo : Mo S mu S' mu'
  h : ∀ b o, H b = some o → b ∉ mu → H' b = some o
  n : ∀ b, b ∈ mu' → b ∈ mu ∨ H b = none
theorem Gr.refl {H S mu} : Gr H S mu H S mu := ⟨.refl, fun _ _ h _ => h, fun _ h => .inl h⟩
theorem Gr.trans {H S mu H1 S1 mu1 H2 S2 mu2} (a : Gr H S mu H1 S1 mu1) (b : Gr H1 S1 mu1 H2 S2 mu2) : Gr H S mu H2 S2 mu2 := by
  refine ⟨a.mo.trans b.mo, fun x o h hm => b.h x o (a.h x o h hm) fun q => ?_, fun x hx => ?_⟩
  · rcases a.n x q with z | z
    · exact hm z
    · rw [h] at z; cases z
  · rcases b.n x hx with z | z
    · exact a.n x z
    · by_cases hm : x ∈ mu
      · exact .inl hm
      · refine .inr ?_
        cases e : H x with
        | none => rfl
        | some o => rw [a.h x o e hm] at z; cases z

/-- the value that an expression gives -/
def Res (g : Glob) (F : Ent) (σ : SS) (env : Env) (H S : Hp) (mu : List Addr) (v : V) (d : D) : Bool → Prop
  | false => Rp g S mu v d
  | true => ∃ a, v = .ref a ∧ S a = none ∧ a ∉ mu ∧ (F.H a = none ∧ a ∉ F.rs) ∧ At g H S mu a d ∧ ∀ (i : Nat) d', env[i]? = some (.ow d') → σ[i]? ≠ some (some (.ref a))

/-! ### readings -/
/-- an exception: its class, its own dict -/
def XcOk (g : Glob) (H S : Hp) (mu : List Addr) (dx : Addr) (fs : List (Str × D)) : Prop := ∃ vs, H dx = some (.xd vs) ∧ RpF g S mu vs fs
abbrev ExW (g : Glob) (F : Ent) (W : WX) (σ : SS) (k : Nat) (fs : List (Str × D)) (env : Env) (cs : Cells) : Prop :=
  ∀ dx H S mu, Rel g F σ H S mu env cs → XcOk g H S mu dx fs → W (.ref (g.ca k)) (some dx) σ H
/-- what a run is to end with -/
def Post {α : Type} (m : R α) (K : α → Env → Cells → Prop) (KX : Nat → List (Str × D) → Env → Cells → Prop) : Prop := match m with
  | .ok a e c => K a e c
  | .exc k fs e c => KX k fs e c
  | .stuck => False
theorem Post.mono {α : Type} {m : R α} {K K' : α → Env → Cells → Prop} {KX KX' : Nat → List (Str × D) → Env → Cells → Prop} (h : Post m K KX) (i : ∀ a e c, K a e c → K' a e c) (ix : ∀ k fs e c, KX k fs e c → KX' k fs e c) : Post m K' KX' := by
  cases m with
  | ok a e c => exact i a e c h
  | exc k fs e c => exact ix k fs e c h
  | stuck => exact h
theorem Post.on {α : Type} {m : R α} {K K' : α → Env → Cells → Prop} {KX : Nat → List (Str × D) → Env → Cells → Prop} (h : Post m K KX) (i : ∀ a e c, K a e c → K' a e c) : Post m K' KX := h.mono i fun _ _ _ _ z => z
theorem Post.bind {α β : Type} {m : M α} {f : α → M β} {env : Env} {cs : Cells} {K : β → Env → Cells → Prop} {KX : Nat → List (Str × D) → Env → Cells → Prop} :
    Post ((m.bind f) env cs) K KX = Post (m env cs) (fun a e c => Post (f a e c) K KX) KX := by
  unfold M.bind
  cases m env cs <;> rfl
/-- a reading: T v a says how the value stands for what the run gives -/
abbrev KOf (g : Glob) (F : Ent) (σ : SS) (H S : Hp) (mu : List Addr) {α β : Type} (T : Env → Hp → Hp → List Addr → β → α → Prop) (Q : β → Hp → Prop) : α → Env → Cells → Prop :=
  fun a env' cs' => ∀ v H' S' mu', Gr H S mu H' S' mu' → Rel g F σ H' S' mu' env' cs' → T env' H' S' mu' v a → Q v H'
def RA {α β : Type} (g : Glob) (F : Ent) (W : WX) (T : SS → Env → Hp → Hp → List Addr → β → α → Prop) (m : M α) (σ : SS) (H S : Hp) (mu : List Addr) (env : Env) (cs : Cells) (Q : β → Hp → Prop) : Prop :=
  Rel g F σ H S mu env cs ∧ Post (m env cs) (KOf g F σ H S mu (T σ) Q) (ExW g F W σ)
def rd {α β : Type} (g : Glob) (F : Ent) (W : WX) (T : SS → Env → Hp → Hp → List Addr → β → α → Prop) (m : M α) : SS → Hp → (β → Hp → Prop) → Prop := fun σ H Q =>
  ∃ S mu env cs, RA g F W T m σ H S mu env cs Q
abbrev TRes (g : Glob) (F : Ent) : SS → Env → Hp → Hp → List Addr → V → D × Bool → Prop := fun σ env H S mu v r => Res g F σ env H S mu v r.1 r.2
abbrev TRp (g : Glob) : SS → Env → Hp → Hp → List Addr → V → D → Prop := fun _ _ _ S mu v d => Rp g S mu v d
abbrev TRl (g : Glob) : SS → Env → Hp → Hp → List Addr → List V → List D → Prop := fun _ _ _ S mu v d => RpL g S mu v d
abbrev TEq {α : Type} : SS → Env → Hp → Hp → List Addr → α → α → Prop := fun _ _ _ _ _ a b => a = b
abbrev rdE (g : Glob) (F : Ent) (W : WX) (m : M (D × Bool)) : TE := rd g F W (TRes g F) m
/-- frozen -/
abbrev rdZ (g : Glob) (F : Ent) (W : WX) (m : M D) : TE := rd g F W (TRp g) m
abbrev rdA (g : Glob) (F : Ent) (W : WX) (m : M (List D)) : TA := rd g F W (TRl g) m
abbrev rdT (g : Glob) (F : Ent) (W : WX) (m : M Bool) : TT := rd g F W TEq m

theorem PE.imp {X : Cx} {e : Expr} {t t' : TE} (h : PE X e t) (i : ∀ σ H Q, t' σ H Q → t σ H Q) : PE X e t' := ⟨fun pins s σ H Q I q => h.run pins s σ H Q I (i σ H Q q)⟩
theorem PT.imp {X : Cx} {e : Expr} {t t' : TT} (h : PT X e t) (i : ∀ σ H Q, t' σ H Q → t σ H Q) : PT X e t' := ⟨fun pins s σ H Q I q => h.run pins s σ H Q I (i σ H Q q)⟩
theorem PA.imp {X : Cx} {e : List Expr} {t t' : TA} (h : PA X e t) (i : ∀ σ H Q, t' σ H Q → t σ H Q) : PA X e t' := ⟨fun pos pins s σ H Q I q => h.run pos pins s σ H Q I (i σ H Q q)⟩
theorem PS.imp {X : Cx} {e : Stmt} {t t' : TS} (h : PS X e t) (i : ∀ D σ H, t' D σ H → t D σ H) : PS X e t' := ⟨fun pins s σ H Q I q => h.run pins s σ H Q I (i Q σ H q)⟩
theorem PSs.imp {X : Cx} {e : List Stmt} {t t' : TS} (h : PSs X e t) (i : ∀ D σ H, t' D σ H → t D σ H) : PSs X e t' := ⟨fun pins s σ H Q I q => h.run pins s σ H Q I (i Q σ H q)⟩
end EL
namespace EL
open PySem PySem.Spec L2

/-! ### facts about the relation -/
section
variable {g : Glob} {F : Ent} {σ : SS} {H H' S S' : Hp} {mu mu' : List Addr} {env : Env} {cs : Cells} {a p : Addr} {o : HO} {d : D} {v : V}
theorem rdKeep {u : HO} (h : Rd H a u) (k : ∀ o, H a = some o → H' a = some o) : Rd H' a u := by
  rcases h with h | ⟨o, h⟩
  · exact .inl (k _ h)
  · exact .inr ⟨o, k _ h⟩
theorem rdHas {u : HO} (h : Rd H a u) : ∃ o, H a = some o := by
  rcases h with h | ⟨o, h⟩ <;> exact ⟨_, h⟩
theorem HS.cellAt (h : HS g H S mu cs) {i : Nat} (e : mu[i]? = some a) : ∃ c, cs[i]? = some c ∧ S a = none ∧ At g H S mu a c := by
  have hi : i < cs.length := by rw [← h.len]; exact (List.getElem?_eq_some_iff.mp e).1
  exact ⟨cs[i], by simp [hi], h.cell i a _ e (by simp [hi])⟩
theorem HS.inMu (h : HS g H S mu cs) (e : a ∈ mu) : S a = none ∧ ∃ o, H a = some o := by
  obtain ⟨i, hi⟩ := List.mem_iff_getElem?.mp e
  obtain ⟨c, _, z, x⟩ := h.cellAt hi
  exact ⟨z, x.has⟩
theorem HS.notMu (h : HS g H S mu cs) (e : H a = none) : a ∉ mu := fun q => by
  obtain ⟨_, o, z⟩ := h.inMu q
  rw [e] at z; cases z
theorem HS.sNone (h : HS g H S mu cs) (e : H a = none) : S a = none := by
  cases q : S a with
  | none => rfl
  | some u =>
    obtain ⟨o, z⟩ := rdHas (h.sub a u q)
    rw [e] at z; cases z
theorem FI.fresh (f : FI F H S mu) (h : HS g H S mu cs) (e : H a = none) : F.H a = none := by
  cases q : F.H a with
  | none => rfl
  | some u =>
    by_cases hm : a ∈ F.mu
    · obtain ⟨i, hi⟩ := List.mem_iff_getElem?.mp hm
      exact absurd (List.mem_iff_getElem?.mpr ⟨i, f.mo.m i a hi⟩) (h.notMu e)
    · rw [f.h a u q hm] at e; cases e

/-- the heap grows, new frozen objects -/
structure Up (H S : Hp) (H' S' : Hp) : Prop where
  h : ∀ b o, H b = some o → H' b = some o
  s : ∀ b u, S b = some u → S' b = some u
  n : ∀ b u, S' b = some u → S b = some u ∨ (H b = none ∧ H' b = some u)
theorem Up.refl : Up H S H S := ⟨fun _ _ h => h, fun _ _ h => h, fun _ _ h => .inl h⟩
theorem Up.mo (u : Up H S H' S') : Mo S mu S' mu := ⟨u.s, fun _ _ h => h⟩
theorem Up.gr (u : Up H S H' S') : Gr H S mu H' S' mu := ⟨u.mo, fun b o h _ => u.h b o h, fun _ h => .inl h⟩
theorem Up.hs (u : Up H S H' S') (h : HS g H S mu cs) : HS g H' S' mu cs := by
  refine ⟨fun b x e => ?_, h.len, h.nd, fun i b c e1 e2 => ?_⟩
  · rcases u.n b x e with z | ⟨_, z⟩
    · exact rdKeep (h.sub b x z) (u.h b)
    · exact .inl z
  · obtain ⟨z, q⟩ := h.cell i b c e1 e2
    refine ⟨?_, q.keep u.mo (u.h b)⟩
    obtain ⟨o, ho⟩ := q.has
    cases e : S' b with
    | none => rfl
    | some x =>
      rcases u.n b x e with y | ⟨y, _⟩
      · rw [z] at y; cases y
      · rw [ho] at y; cases y
theorem Up.rel (u : Up H S H' S') (r : Rel g F σ H S mu env cs) : Rel g F σ H' S' mu env cs := by
  refine ⟨u.hs r.hs, ⟨r.fi.mo.trans u.mo, fun b o h hm => u.h b o (r.fi.h b o h hm), r.fi.n, fun b x e => ?_, fun p hp => u.h _ _ (r.fi.l p hp), fun a ha => ?_⟩, r.len, fun i d e => ?_, fun i d e => ?_, r.sep⟩
  · rcases u.n b x e with z | ⟨z, _⟩
    · exact r.fi.t b x z
    · exact .inr (r.fi.fresh r.hs z)
  · obtain ⟨h1, h2, h4, o, h3⟩ := r.fi.r a ha
    refine ⟨?_, h2, h4, o, u.h a o h3⟩
    cases q : S' a with
    | none => rfl
    | some x =>
      rcases u.n a x q with y | ⟨y, _⟩
      · rw [h1] at y; cases y
      · rw [h3] at y; cases y
  · obtain ⟨v, h1, h2⟩ := r.fz i d e
    exact ⟨v, h1, h2.mono u.mo⟩
  · obtain ⟨a, h1, h2, h3, h4, h5⟩ := r.ow i d e
    refine ⟨a, h1, ?_, h3, h4, h5.keep u.mo (u.h a)⟩
    obtain ⟨o, ho⟩ := h5.has
    cases q : S' a with
    | none => rfl
    | some x =>
      rcases u.n a x q with y | ⟨y, _⟩
      · rw [h2] at y; cases y
      · rw [ho] at y; cases y
theorem Up.new (h : H p = none) (hs : S p = none) : Up H S (upd H p o) S := ⟨fun b x e => by rw [upd_ne (ne_of_none e h)]; exact e, fun _ _ e => e, fun _ _ e => .inl e⟩
theorem Up.newS (h : H p = none) (hs : S p = none) : Up H S (upd H p o) (upd S p o) := by
  refine ⟨fun b x e => by rw [upd_ne (ne_of_none e h)]; exact e, fun b x e => by rw [upd_ne (ne_of_none e hs)]; exact e, fun b x e => ?_⟩
  by_cases hb : b = p
  · subst hb
    rw [upd_same] at e
    exact .inr ⟨h, by rw [upd_same]; exact e⟩
  · rw [upd_ne hb] at e
    exact .inl e

/-- an unshared object is frozen -/
theorem Rel.freeze (r : Rel g F σ H S mu env cs) (ho : H a = some o) (hs : S a = none) (hm : a ∉ mu) (hF : F.H a = none ∧ a ∉ F.rs) (hne : ∀ (i : Nat) d', env[i]? = some (.ow d') → σ[i]? ≠ some (some (.ref a))) :
    Rel g F σ H (upd S a o) mu env cs := by
  have m : Mo S mu (upd S a o) mu := Mo.new hs
  refine ⟨⟨fun b u e => ?_, r.hs.len, r.hs.nd, fun i b c e1 e2 => ?_⟩, ⟨r.fi.mo.trans m, r.fi.h, r.fi.n, fun b u e => ?_, r.fi.l, fun b hb => ?_⟩, r.len, fun i d e => ?_, fun i d e => ?_, r.sep⟩
  · by_cases hb : b = a
    · subst hb; rw [upd_same] at e; cases e; exact .inl ho
    · rw [upd_ne hb] at e; exact r.hs.sub b u e
  · obtain ⟨z, q⟩ := r.hs.cell i b c e1 e2
    have hb : b ≠ a := fun h => hm (h ▸ List.mem_iff_getElem?.mpr ⟨i, e1⟩)
    exact ⟨by rw [upd_ne hb]; exact z, q.keep m fun _ h => h⟩
  · by_cases hb : b = a
    · subst hb; exact .inr hF.1
    · rw [upd_ne hb] at e; exact r.fi.t b u e
  · have hne : b ≠ a := fun h => hF.2 (h ▸ hb)
    rw [upd_ne hne]
    exact r.fi.r b hb
  · obtain ⟨v, h1, h2⟩ := r.fz i d e
    exact ⟨v, h1, h2.mono m⟩
  · obtain ⟨b, h1, h2, h3, h4, h5⟩ := r.ow i d e
    have hb : b ≠ a := fun h => hne i d e (h ▸ h1)
    exact ⟨b, h1, by rw [upd_ne hb]; exact h2, h3, h4, h5.keep m fun _ h => h⟩
theorem Gr.freeze (hs : S a = none) : Gr H S mu H (upd S a o) mu := ⟨Mo.new hs, fun _ _ h _ => h, fun _ h => .inl h⟩
theorem Gr.withS {S1} (x : Gr H S mu H' S1 mu') (m : Mo S1 mu' S' mu') : Gr H S mu H' S' mu' := ⟨x.mo.trans m, x.h, x.n⟩

/-- a slot forgotten or changed by the way -/
theorem Rel.ext (r : Rel g F σ H S mu env cs) {i : Nat} {d : D} (e : env[i]? = some (.ow d)) : ∃ S', Gr H S mu H S' mu ∧ Rel g F σ H S' mu (env.set i (.fz d)) cs ∧ ∃ a, σ[i]? = some (some (.ref a)) ∧ Rp g S' mu (.ref a) d := by
  obtain ⟨a, h1, h2, h3, h4, h5⟩ := r.ow i d e
  obtain ⟨o, ho, rp⟩ := h5.fz h2
  have hi : i < env.length := (List.getElem?_eq_some_iff.mp e).1
  have m : Mo S mu (upd S a o) mu := Mo.new h2
  have other : ∀ (j : Nat) (d' : D), (env.set i (.fz d))[j]? = some (.ow d') → env[j]? = some (.ow d') ∧ j ≠ i := fun j d' q => by
    by_cases hj : j = i
    · subst hj
      rw [List.getElem?_set_self hi] at q; cases q
    · rw [List.getElem?_set_ne (Ne.symm hj)] at q
      exact ⟨q, hj⟩
  have r' : Rel g F σ H (upd S a o) mu (env.set i (.fz d)) cs := by
    have r0 : Rel g F σ H S mu (env.set i .no) cs := by
      refine ⟨r.hs, r.fi, by rw [List.length_set]; exact r.len, fun j d' q => ?_, fun j d' q => ?_, fun j k d' d'' b q1 q2 => ?_⟩
      · by_cases hj : j = i
        · subst hj; rw [List.getElem?_set_self hi] at q; cases q
        · rw [List.getElem?_set_ne (Ne.symm hj)] at q; exact r.fz j d' q
      · by_cases hj : j = i
        · subst hj; rw [List.getElem?_set_self hi] at q; cases q
        · rw [List.getElem?_set_ne (Ne.symm hj)] at q; exact r.ow j d' q
      · have t : ∀ (j : Nat) (d' : D), (env.set i Slot.no)[j]? = some (.ow d') → env[j]? = some (.ow d') := fun j d' q => by
          by_cases hj : j = i
          · subst hj; rw [List.getElem?_set_self hi] at q; cases q
          · rw [List.getElem?_set_ne (Ne.symm hj)] at q; exact q
        exact r.sep j k d' d'' b (t _ _ q1) (t _ _ q2)
    have r1 := r0.freeze ho h2 h3 h4 fun j d' q hj => by
      have hj2 : j ≠ i := by
        rintro rfl
        rw [List.getElem?_set_self hi] at q; cases q
      rw [List.getElem?_set_ne (Ne.symm hj2)] at q
      exact hj2 (r.sep j i d' d a q e hj h1)
    refine ⟨r1.hs, r1.fi, by rw [List.length_set]; exact r.len, fun j d' q => ?_, fun j d' q => ?_, fun j k d' d'' b q1 q2 => ?_⟩
    · by_cases hj : j = i
      · subst hj
        rw [List.getElem?_set_self hi] at q; cases q
        exact ⟨_, h1, rp⟩
      · rw [List.getElem?_set_ne (Ne.symm hj)] at q
        exact r1.fz j d' (by rw [List.getElem?_set_ne (Ne.symm hj)]; exact q)
    · obtain ⟨q1, hj⟩ := other j d' q
      exact r1.ow j d' (by rw [List.getElem?_set_ne (Ne.symm hj)]; exact q1)
    · exact r.sep j k d' d'' b (other _ _ q1).1 (other _ _ q2).1
  exact ⟨_, Gr.freeze h2, r', a, h1, rp⟩
/-- a value that came fresh is frozen -/
theorem Res.fz (r : Rel g F σ H S mu env cs) {b : Bool} (x : Res g F σ env H S mu v d b) : ∃ S', Mo S mu S' mu ∧ Rel g F σ H S' mu env cs ∧ Rp g S' mu v d := by
  cases b with
  | false => exact ⟨S, .refl, r, x⟩
  | true =>
    obtain ⟨a, rfl, h1, h2, h3, h4, h5⟩ := x
    obtain ⟨o, ho, rp⟩ := h4.fz h1
    exact ⟨_, Mo.new h1, r.freeze ho h1 h2 h3 h5, rp⟩
end

/-! ### frozen, operands -/
/-- one reading by another -/
theorem RA.bind {α α' β β' : Type} {g : Glob} {F : Ent} {W : WX} {T : SS → Env → Hp → Hp → List Addr → β → α → Prop} {T' : SS → Env → Hp → Hp → List Addr → β' → α' → Prop} {m : M α} {f : α → M α'} {σ : SS} {H S : Hp} {mu : List Addr} {env : Env} {cs : Cells} {Q : β' → Hp → Prop} {Q1 : β → Hp → Prop}
    (h : RA g F W T' (m.bind f) σ H S mu env cs Q) (i : ∀ a env1 cs1 v H1 S1 mu1, Gr H S mu H1 S1 mu1 → T σ env1 H1 S1 mu1 v a → RA g F W T' (f a) σ H1 S1 mu1 env1 cs1 Q → Q1 v H1) : RA g F W T m σ H S mu env cs Q1 := by
  obtain ⟨r, q⟩ := h
  rw [Post.bind] at q
  exact ⟨r, q.on fun a env1 cs1 q1 v H1 S1 mu1 gr rl t => i a env1 cs1 v H1 S1 mu1 gr t ⟨rl, q1.on fun b e c k v' H' S' mu' gr' => k v' H' S' mu' (gr.trans gr')⟩⟩
theorem rd_bind {α α' β β' : Type} {g : Glob} {F : Ent} {W : WX} {T : SS → Env → Hp → Hp → List Addr → β → α → Prop} {T' : SS → Env → Hp → Hp → List Addr → β' → α' → Prop} {m : M α} {f : α → M α'} {σ : SS} {H : Hp} {Q : β' → Hp → Prop} {Q1 : β → Hp → Prop}
    (h : rd g F W T' (m.bind f) σ H Q) (i : ∀ a env1 cs1 v H1 S1 mu1, T σ env1 H1 S1 mu1 v a → RA g F W T' (f a) σ H1 S1 mu1 env1 cs1 Q → Q1 v H1) : rd g F W T m σ H Q1 := by
  obtain ⟨S, mu, env, cs, r⟩ := h
  exact ⟨S, mu, env, cs, r.bind fun a env1 cs1 v H1 S1 mu1 gr t ra => i a env1 cs1 v H1 S1 mu1 t ra⟩
theorem RA.rd {α β : Type} {g : Glob} {F : Ent} {W : WX} {T : SS → Env → Hp → Hp → List Addr → β → α → Prop} {m : M α} {σ : SS} {H S : Hp} {mu : List Addr} {env : Env} {cs : Cells} {Q : β → Hp → Prop} (h : RA g F W T m σ H S mu env cs Q) : rd g F W T m σ H Q := ⟨S, mu, env, cs, h⟩
theorem RA.pure {α β : Type} {g : Glob} {F : Ent} {W : WX} {T : SS → Env → Hp → Hp → List Addr → β → α → Prop} {a : α} {σ : SS} {H S : Hp} {mu : List Addr} {env : Env} {cs : Cells} {Q : β → Hp → Prop} (h : RA g F W T (M.pure a) σ H S mu env cs Q) {v : β} (t : T σ env H S mu v a) : Q v H :=
  h.2 v H S mu .refl h.1 t
def mZ (m : M (D × Bool)) : M D := m.bind fun r => M.pure r.1
section
variable {g : Glob} {F : Ent} {W : WX} {X : Cx} {e : Expr}
theorem sZ {m : M (D × Bool)} (h : PE X e (rdE g F W m)) : PE X e (rdZ g F W (mZ m)) := PE.imp h fun σ H Q q =>
  rd_bind q fun a env1 cs1 v H1 S1 mu1 t ra => by
    obtain ⟨S2, m2, r2, rp⟩ := Res.fz ra.1 t
    exact ra.2 v H1 S2 mu1 (Gr.refl.withS m2) r2 rp
/-- not fresh -/
theorem sE {m : M D} (h : PE X e (rdZ g F W m)) : PE X e (rdE g F W (m.bind fun d => M.pure (d, false))) := PE.imp h fun σ H Q q =>
  rd_bind q fun a env1 cs1 v H1 S1 mu1 t ra => ra.pure t
end
/-- a value read where it is not kept: frozen, or an own one's or a cell's -/
def Vw (g : Glob) (H S : Hp) (mu : List Addr) (v : V) (d : D) : Prop := Rp g S mu v d ∨ ∃ a, v = .ref a ∧ At g H S mu a d
theorem Vw.keep {g : Glob} {H S mu H' S' mu' v d} (x : Vw g H S mu v d) (gr : Gr H S mu H' S' mu') (h : ∀ a, v = .ref a → (∃ o, H a = some o) → a ∉ mu ∨ Rp g S mu v d) : Vw g H' S' mu' v d := by
  rcases x with x | ⟨a, e, x⟩
  · exact .inl (x.mono gr.mo)
  · rcases h a e x.has with z | z
    · exact .inr ⟨a, e, x.keep gr.mo fun o ho => gr.h a o ho z⟩
    · exact .inl (z.mono gr.mo)
/-- an operand: never a cell's content (that is read last) -/
def Vo (g : Glob) (H S : Hp) (mu : List Addr) (v : V) (d : D) : Prop := Rp g S mu v d ∨ ∃ a, v = .ref a ∧ a ∉ mu ∧ At g H S mu a d
theorem Vo.keep {g : Glob} {cs H S mu H' S' mu' v d} (x : Vo g H S mu v d) (gr : Gr H S mu H' S' mu') (r : HS g H S mu cs) : Vo g H' S' mu' v d := by
  rcases x with x | ⟨a, e, n, x⟩
  · exact .inl (x.mono gr.mo)
  · refine .inr ⟨a, e, fun q => ?_, x.keep gr.mo fun o ho => gr.h a o ho n⟩
    obtain ⟨o, ho⟩ := x.has
    rcases gr.n a q with z | z
    · exact n z
    · rw [ho] at z; cases z
@[simp] def dr (cs : Cells) : D → Option D
  | .cell n => cs[n]?
  | d => some d
theorem Vo.dr {g : Glob} {H S mu cs v d d'} (h : HS g H S mu cs) (x : Vo g H S mu v d) (e : dr cs d = some d') : Vw g H S mu v d' := by
  rcases x with x | ⟨a, ea, n, x⟩
  · cases x with
    | cell hc =>
      obtain ⟨c, hc1, _, q⟩ := h.cellAt hc
      have e2 : cs[_]? = some d' := e
      rw [hc1] at e2
      cases e2
      exact .inr ⟨_, rfl, q⟩
    | non => cases e; exact .inl .non
    | bl => cases e; exact .inl (.bl _)
    | int => cases e; exact .inl (.int _)
    | str => cases e; exact .inl (.str _)
    | lst h1 h2 => cases e; exact .inl (.lst h1 h2)
    | tup h1 h2 => cases e; exact .inl (.tup h1 h2)
    | dct h1 h2 => cases e; exact .inl (.dct h1 h2)
    | ins h1 h2 => cases e; exact .inl (.ins h1 h2)
  · cases d <;> first | exact x.elim | skip
    all_goals (cases e; exact .inr ⟨a, ea, x⟩)
abbrev TVo (g : Glob) : SS → Env → Hp → Hp → List Addr → V → D → Prop := fun _ _ H S mu v d => Vo g H S mu v d
abbrev rdO (g : Glob) (F : Ent) (W : WX) (m : M D) : TE := rd g F W (TVo g) m
section
variable {g : Glob} {F : Ent} {W : WX} {X : Cx} {e : Expr}
theorem sO {m : M D} (h : PE X e (rdZ g F W m)) : PE X e (rdO g F W m) := PE.imp h fun σ H Q ⟨S, mu, env, cs, r, q⟩ =>
  ⟨S, mu, env, cs, r, q.on fun a e c k v H' S' mu' gr rl t => k v H' S' mu' gr rl (.inl t)⟩
end

/-! ### names -/
def mVar (i : Nat) : M D := fun env cs => match env[i]? with
  | some (.fz d) => .ok d env cs
  | some (.ow d) => .ok d (env.set i (.fz d)) cs
  | _ => .stuck
def mPeek (i : Nat) : M D := fun env cs => match env[i]? with
  | some (.fz d) => .ok d env cs
  | some (.ow d) => .ok d env cs
  | _ => .stuck
section
variable {g : Glob} {F : Ent} {W : WX} {X : Cx} {e : Expr}
theorem sVar {i : Nat} (h : PE X e (tVar i)) : PE X e (rdZ g F W (mVar i)) := PE.imp h fun σ H Q ⟨S, mu, env, cs, r, q⟩ => by
  unfold mVar at q
  cases e1 : env[i]? with
  | none => rw [e1] at q; exact q.elim
  | some sl =>
    rw [e1] at q
    cases sl with
    | no => exact q.elim
    | fz d =>
      obtain ⟨v, h1, h2⟩ := r.fz i d e1
      exact ⟨v, h1, q v H S mu .refl r h2⟩
    | ow d =>
      obtain ⟨S', gr, r', a, h1, rp⟩ := r.ext e1
      exact ⟨_, h1, q _ H S' mu gr r' rp⟩
theorem sPeek {i : Nat} (h : PE X e (tVar i)) : PE X e (rdO g F W (mPeek i)) := PE.imp h fun σ H Q ⟨S, mu, env, cs, r, q⟩ => by
  unfold mPeek at q
  cases e1 : env[i]? with
  | none => rw [e1] at q; exact q.elim
  | some sl =>
    rw [e1] at q
    cases sl with
    | no => exact q.elim
    | fz d =>
      obtain ⟨v, h1, h2⟩ := r.fz i d e1
      exact ⟨v, h1, q v H S mu .refl r (.inl h2)⟩
    | ow d =>
      obtain ⟨a, h1, h2, h3, h4, h5⟩ := r.ow i d e1
      exact ⟨_, h1, q _ H S mu .refl r (.inr ⟨a, rfl, h3, h5⟩)⟩
/-- a constant -/
theorem sC {v : V} {d : D} (h : PE X e (tC v)) (rp : ∀ S mu, Rp g S mu v d) : PE X e (rdZ g F W (M.pure d)) := PE.imp h fun σ H Q ⟨S, mu, env, cs, r, q⟩ => q v H S mu .refl r (rp S mu)
end

/-! ### operations on values -/
/-- what an operation gives -/
structure OpRes (g : Glob) (H S : Hp) (mu : List Addr) (H' S' : Hp) (v : V) (d : D) (fr : Bool) : Prop where
  up : Up H S H' S'
  res : if fr = true then ∃ a, v = .ref a ∧ H a = none ∧ S' a = none ∧ At g H' S' mu a d else Rp g S' mu v d
theorem OpRes.val {g : Glob} {H S mu v d} (h : Rp g S mu v d) : OpRes g H S mu H S v d false := ⟨.refl, by rw [if_neg (by decide)]; exact h⟩
theorem OpRes.new {g : Glob} {H S mu cs} {p : Addr} {o : HO} {d} (hs : HS g H S mu cs) (hp : H p = none) (h : At g (upd H p o) S mu p d) : OpRes g H S mu (upd H p o) S (.ref p) d true :=
  ⟨Up.new hp (hs.sNone hp), by rw [if_pos rfl]; exact ⟨p, rfl, hp, hs.sNone hp, h⟩⟩
theorem OpRes.tup {g : Glob} {H S mu cs} {p : Addr} {vs ds} (hs : HS g H S mu cs) (hp : H p = none) (h : RpL g S mu vs ds) : OpRes g H S mu (upd H p (.tup vs)) (upd S p (.tup vs)) (.ref p) (.tup ds) false :=
  ⟨Up.newS hp (hs.sNone hp), by rw [if_neg (by decide)]; exact .tup (.inl upd_same) (h.mono (Mo.new (hs.sNone hp)))⟩
theorem OpRes.lst {g : Glob} {H S mu cs} {p : Addr} {vs ds} (hs : HS g H S mu cs) (hp : H p = none) (h : RpL g S mu vs ds) : OpRes g H S mu (upd H p (.lst vs)) S (.ref p) (.lst ds) true :=
  OpRes.new hs hp ⟨vs, upd_same, h⟩
theorem OpRes.rel {g : Glob} {F σ H S mu env cs H' S' v d fr} (r : Rel g F σ H S mu env cs) (x : OpRes g H S mu H' S' v d fr) : Rel g F σ H' S' mu env cs ∧ Gr H S mu H' S' mu ∧ Res g F σ env H' S' mu v d fr := by
  have r' := x.up.rel r
  refine ⟨r', x.up.gr, ?_⟩
  cases fr with
  | false =>
    have h := x.res
    rw [if_neg (by decide)] at h
    exact h
  | true =>
    obtain ⟨a, e, h1, h2, h3⟩ := by have h := x.res; rw [if_pos rfl] at h; exact h
    refine ⟨a, e, h2, r.hs.notMu h1, ⟨r.fi.fresh r.hs h1, fun z => ?_⟩, h3, fun i d' q z => ?_⟩
    · obtain ⟨_, _, _, o, ho⟩ := r.fi.r a z
      rw [ho] at h1; cases h1
    obtain ⟨b, e1, _, _, _, e5⟩ := r.ow i d' q
    rw [e1] at z
    cases z
    obtain ⟨o, ho⟩ := e5.has
    rw [ho] at h1; cases h1
abbrev OpF2 := Cells → D → D → Option (D × Bool)
/-- f tells what the reading r asks -/
def OpOk (g : Glob) (f : OpF2) (r : R2) : Prop := ∀ (H S : Hp) (mu : List Addr) (cs : Cells) (v w : V) (a b : D) (x : D × Bool) (Q : VK), HS g H S mu cs → Vo g H S mu v a → Vo g H S mu w b → f cs a b = some x →
  (∀ u H' S', OpRes g H S mu H' S' u x.1 x.2 → Q u H') → r v w H Q
/-- by the cells as they stand -/
def mCs {α : Type} (f : Cells → Option α) : M α := fun env cs => M.opt (f cs) env cs
def mOp2 (f : OpF2) (ma mb : M D) : M (D × Bool) := ma.bind fun a => mb.bind fun b => mCs fun cs => f cs a b
abbrev OpF1 := Cells → D → Option (D × Bool)
def OpOk1 (g : Glob) (f : OpF1) (r : V → Hp → VK → Prop) : Prop := ∀ (H S : Hp) (mu : List Addr) (cs : Cells) (v : V) (a : D) (x : D × Bool) (Q : VK), HS g H S mu cs → Vo g H S mu v a → f cs a = some x →
  (∀ u H' S', OpRes g H S mu H' S' u x.1 x.2 → Q u H') → r v H Q
def mOp1 (f : OpF1) (ma : M D) : M (D × Bool) := ma.bind fun a => mCs fun cs => f cs a
section
variable {g : Glob} {F : Ent} {W : WX} {X : Cx} {e : Expr}
/-- an operation's end -/
theorem RA.op {x : Option (D × Bool)} {σ : SS} {H S : Hp} {mu : List Addr} {env : Env} {cs : Cells} {Q : VK} (h : RA g F W (TRes g F) (M.opt x) σ H S mu env cs Q) : ∃ y, x = some y ∧ ∀ u H' S', OpRes g H S mu H' S' u y.1 y.2 → Q u H' := by
  cases x with
  | none => exact h.2.elim
  | some y =>
    refine ⟨y, rfl, fun u H' S' or => ?_⟩
    obtain ⟨r', gr', res⟩ := or.rel h.1
    exact h.2 u H' S' mu gr' r' res
theorem RA.cs {f : Cells → Option (D × Bool)} {σ : SS} {H S : Hp} {mu : List Addr} {env : Env} {cs : Cells} {Q : VK} (h : RA g F W (TRes g F) (mCs f) σ H S mu env cs Q) : ∃ y, f cs = some y ∧ ∀ u H' S', OpRes g H S mu H' S' u y.1 y.2 → Q u H' :=
  RA.op (g := g) (F := F) (W := W) (x := f cs) ⟨h.1, h.2⟩
theorem iOp2 {f : OpF2} {r : R2} {ma mb : M D} (h : OpOk g f r) (σ : SS) (H : Hp) (Q : VK) (q : rdE g F W (mOp2 f ma mb) σ H Q) : tOp r (rdO g F W ma) (rdO g F W mb) σ H Q :=
  rd_bind q fun a env1 cs1 v H1 S1 mu1 va r1 => (r1.bind fun b env2 cs2 w H2 S2 mu2 gr2 vb r2 => by
    obtain ⟨y, e, k⟩ := r2.cs
    exact h _ _ _ _ _ _ _ _ _ _ r2.1.hs (Vo.keep va gr2 r1.1.hs) vb e k).rd
theorem iOp1 {f : OpF1} {r : V → Hp → VK → Prop} {ma : M D} (h : OpOk1 g f r) (σ : SS) (H : Hp) (Q : VK) (q : rdE g F W (mOp1 f ma) σ H Q) : tUn r (rdO g F W ma) σ H Q :=
  rd_bind q fun a env1 cs1 v H1 S1 mu1 va r1 => by
    obtain ⟨y, e, k⟩ := r1.cs
    exact h _ _ _ _ _ _ _ _ r1.1.hs va e k
end

/-! ### what a view says -/
section
variable {g : Glob} {H S : Hp} {mu : List Addr} {cs : Cells} {v : V}
theorem KL.sq {a xs} (h : KL g.K a xs) : SqL g.K H a xs := .inr h
theorem KT.sq {a xs} (h : KT g.K a xs) : SqT g.K H a xs := .inr h
theorem Vw.non (x : Vw g H S mu v .non) : v = .non := by
  rcases x with x | ⟨a, e, x⟩
  · cases x; rfl
  · exact x.elim
theorem Vw.bl {b} (x : Vw g H S mu v (.bl b)) : v = .bl b := by
  rcases x with x | ⟨a, e, x⟩
  · cases x; rfl
  · exact x.elim
theorem Vw.int {b} (x : Vw g H S mu v (.int b)) : v = .int b := by
  rcases x with x | ⟨a, e, x⟩
  · cases x; rfl
  · exact x.elim
theorem Vw.str {b} (x : Vw g H S mu v (.str b)) : v = .str b := by
  rcases x with x | ⟨a, e, x⟩
  · cases x; rfl
  · exact x.elim
theorem Vw.lst {ds} (h : HS g H S mu cs) (x : Vw g H S mu v (.lst ds)) : ∃ a vs, v = .ref a ∧ SqL g.K H a vs ∧ RpL g S mu vs ds := by
  rcases x with x | ⟨a, e, x⟩
  · cases x with
    | lst h1 h2 =>
      refine ⟨_, _, rfl, ?_, h2⟩
      rcases h1 with h1 | h1
      · exact .inl (h.sub _ _ h1)
      · exact .inr h1
  · obtain ⟨vs, h1, h2⟩ := x
    exact ⟨a, vs, e, .of h1, h2⟩
theorem Vw.tup {ds} (h : HS g H S mu cs) (x : Vw g H S mu v (.tup ds)) : ∃ a vs, v = .ref a ∧ SqT g.K H a vs ∧ RpL g S mu vs ds := by
  rcases x with x | ⟨a, e, x⟩
  · cases x with
    | tup h1 h2 =>
      refine ⟨_, _, rfl, ?_, h2⟩
      rcases h1 with h1 | h1
      · exact .inl (h.sub _ _ h1)
      · exact .inr h1
  · exact x.elim
theorem Vw.dct {ds} (h : HS g H S mu cs) (x : Vw g H S mu v (.dct ds)) : ∃ a vs, v = .ref a ∧ Rd H a (.dK vs) ∧ RpK g S mu vs ds := by
  rcases x with x | ⟨a, e, x⟩
  · cases x with
    | dct h1 h2 => exact ⟨_, _, rfl, h.sub _ _ h1, h2⟩
  · obtain ⟨vs, h1, h2⟩ := x
    exact ⟨a, vs, e, .inl h1, h2⟩
theorem Vw.ins {c ds} (h : HS g H S mu cs) (x : Vw g H S mu v (.ins c ds)) : ∃ a dx vs, v = .ref a ∧ Rd H a (.ins (g.ca c) dx vs) ∧ RpF g S mu vs ds := by
  rcases x with x | ⟨a, e, x⟩
  · cases x with
    | ins h1 h2 => exact ⟨_, _, _, rfl, h.sub _ _ h1, h2⟩
  · obtain ⟨dx, vs, h1, h2⟩ := x
    exact ⟨a, dx, vs, e, .inl h1, h2⟩
end
end EL
namespace EL
open PySem PySem.Spec L2

section
variable {g : Glob} {F : Ent} {W : WX} {X : Cx} {e a b : Expr} {es : List Expr} {pos : Pos}

/-! ### arguments, displays -/
def mCons (ma : M D) (mr : M (List D)) : M (List D) := ma.bind fun d => mr.bind fun ds => M.pure (d :: ds)
theorem sANil : PA X [] (rdA g F W (M.pure [])) := PA.imp pa_nil fun σ H Q ⟨S, mu, env, cs, ra⟩ => ra.pure .nil
theorem starEach_cons (h : ∀ x p, e ≠ .Starred x p) : starEach (e :: es) X.env = (false, eval e X.env) :: starEach es X.env := by
  cases e <;> first | rfl | exact absurd rfl (h _ _)
theorem sACons {ma : M D} {mr : M (List D)} (h1 : PE X e (rdZ g F W ma)) (h2 : PA X es (rdA g F W mr)) (hs : ∀ x p, e ≠ .Starred x p) : PA X (e :: es) (rdA g F W (mCons ma mr)) :=
  PA.imp (pa_cons h1 h2 (starEach_cons hs)) fun σ H Q q => rd_bind q fun d env1 cs1 v H1 S1 mu1 t r1 =>
    (r1.bind fun ds env2 cs2 vs H2 S2 mu2 gr t2 r2 => r2.pure (.cons (t.mono gr.mo) t2)).rd
def mTup (m : M (List D)) : M (D × Bool) := m.bind fun ds => M.pure (.tup ds, false)
def mLst (m : M (List D)) : M (D × Bool) := m.bind fun ds => M.pure (.lst ds, true)
/-- at most so many -/
def Short {α : Type} (m : M (List α)) : Prop := ∀ env cs ds env' cs', m env cs = .ok ds env' cs' → ds.length ≤ sizeLine
theorem RA.sh {α : Type} {T : SS → Env → Hp → Hp → List Addr → List V → List α → Prop} {α' β' : Type} {T' : SS → Env → Hp → Hp → List Addr → β' → α' → Prop} {m : M (List α)} {f : List α → M α'} {σ : SS} {H S : Hp} {mu : List Addr} {env : Env} {cs : Cells} {Q : β' → Hp → Prop} {Q1 : List V → Hp → Prop} (sh : Short m)
    (h : RA g F W T' (m.bind f) σ H S mu env cs Q) (i : ∀ a env1 cs1 v H1 S1 mu1, Gr H S mu H1 S1 mu1 → T σ env1 H1 S1 mu1 v a → a.length ≤ sizeLine → RA g F W T' (f a) σ H1 S1 mu1 env1 cs1 Q → Q1 v H1) : RA g F W T m σ H S mu env cs Q1 := by
  obtain ⟨r, q⟩ := h
  rw [Post.bind] at q
  refine ⟨r, ?_⟩
  cases e1 : m env cs with
  | stuck => rw [e1] at q; exact q
  | exc k fs e c => rw [e1] at q; exact q
  | ok a env1 cs1 =>
    rw [e1] at q
    exact fun v H1 S1 mu1 gr rl t => i a env1 cs1 v H1 S1 mu1 gr t (sh _ _ _ _ _ e1) ⟨rl, Post.on q fun b e c k v' H' S' mu' gr' => k v' H' S' mu' (gr.trans gr')⟩
theorem sTup {m : M (List D)} (h : PA X es (rdA g F W m)) (sh : Short m) {x1} : PE X (.Tuple es x1 pos) (rdE g F W (mTup m)) :=
  PE.imp (pe_tup h) fun σ H Q ⟨S, mu, env, cs, ra⟩ => (RA.sh (T := TRl g) sh ra fun ds env1 cs1 vs H1 S1 mu1 gr t hl r1 => by
    refine ⟨by rw [t.length]; exact hl, fun p hp => ?_⟩
    exact RA.op (g := g) (F := F) (W := W) (x := some (.tup ds, false)) r1 |>.choose_spec.2 _ _ _ (by
      have e := (RA.op (g := g) (F := F) (W := W) (x := some (.tup ds, false)) r1).choose_spec.1
      rw [← Option.some.inj e]
      exact OpRes.tup r1.1.hs hp t)).rd
theorem sLst {m : M (List D)} (h : PA X es (rdA g F W m)) (sh : Short m) : PE X (.List es pos) (rdE g F W (mLst m)) :=
  PE.imp (pe_lst h) fun σ H Q ⟨S, mu, env, cs, ra⟩ => (RA.sh (T := TRl g) sh ra fun ds env1 cs1 vs H1 S1 mu1 gr t hl r1 => by
    refine ⟨by rw [t.length]; exact hl, fun p hp => ?_⟩
    exact RA.op (g := g) (F := F) (W := W) (x := some (.lst ds, true)) r1 |>.choose_spec.2 _ _ _ (by
      have e := (RA.op (g := g) (F := F) (W := W) (x := some (.lst ds, true)) r1).choose_spec.1
      rw [← Option.some.inj e]
      exact OpRes.lst r1.1.hs hp t)).rd

/-! ### tests -/
/-- a value's truth -/
@[simp] def trD : D → Option Bool
  | .non => some false
  | .bl b => some b
  | .int i => some (i != 0)
  | .str x => if x.length ≤ sizeLine then some ((x.length : Int) != 0) else none
  | .lst ds => some (!ds.isEmpty)
  | .tup ds => some (!ds.isEmpty)
  | _ => none
@[simp] def trC (cs : Cells) (d : D) : Option Bool := (dr cs d).bind trD
theorem RpL.isEmpty {S : Hp} {mu : List Addr} {vs ds} (r : RpL g S mu vs ds) : vs.isEmpty = ds.isEmpty := by cases r <;> rfl
theorem tru_of {H S : Hp} {mu : List Addr} {cs : Cells} {v : V} {d : D} {k : Bool} (hs : HS g H S mu cs) (x : Vo g H S mu v d) (e : trC cs d = some k) : TruV g.K v H k := by
  unfold trC at e
  cases e1 : dr cs d with
  | none => rw [e1] at e; cases e
  | some d' =>
    rw [e1] at e
    have e : trD d' = some k := e
    have w := x.dr hs e1
    cases d' <;> first | (simp [trD] at e; done) | skip
    · cases w.non; exact (Option.some.inj e).symm
    · cases w.bl; exact (Option.some.inj e).symm
    · cases w.int; exact (Option.some.inj e).symm
    · cases w.str
      simp only [trD] at e
      split at e
      · rename_i hl
        exact ⟨hl, (Option.some.inj e).symm⟩
      · cases e
    · obtain ⟨a, vs, rfl, h1, h2⟩ := w.lst hs
      exact .inl ⟨vs, h1, by rw [h2.isEmpty]; exact (Option.some.inj e).symm⟩
    · obtain ⟨a, vs, rfl, h1, h2⟩ := w.tup hs
      exact .inr (.inl ⟨vs, h1, by rw [h2.isEmpty]; exact (Option.some.inj e).symm⟩)
def mTr (ma : M D) : M Bool := ma.bind fun a => mCs fun cs => trC cs a
theorem RA.csT {α : Type} {f : Cells → Option α} {σ : SS} {H S : Hp} {mu : List Addr} {env : Env} {cs : Cells} {Q : α → Hp → Prop} (h : RA g F W TEq (mCs f) σ H S mu env cs Q) : ∃ y, f cs = some y ∧ Q y H := by
  obtain ⟨r, q⟩ := h
  unfold mCs M.opt at q
  cases e : f cs with
  | none => rw [e] at q; exact q.elim
  | some y => rw [e] at q; exact ⟨y, rfl, q y H S mu .refl r rfl⟩
def plainT : Expr → Bool
  | .UnaryOp .Not _ _ => false
  | .BoolOp _ _ _ => false
  | .IfExp _ _ _ _ => false
  | .Compare _ _ _ _ => false
  | _ => true
theorem plainT_ok (h : plainT a = true) (whole : Sem Value) : isTrue a X.env whole = (do let v ← whole; standAt a.pos; holding [v] (truthy v)) := by
  cases a <;> first | rfl | (simp [plainT] at h; done) | skip
  rename_i op _ _
  cases op <;> first | rfl | (simp [plainT] at h; done)
/-- an expression of any kind as a test -/
theorem sTrue {ma : M D} (hK : X.K = g.K) (ha : PE X a (rdO g F W ma)) (hp : plainT a = true) : PT X a (rdT g F W (mTr ma)) :=
  PT.imp (pt_truth ha (plainT_ok hp)) fun σ H Q q => rd_bind q fun d env1 cs1 v H1 S1 mu1 t r1 => by
    obtain ⟨y, e, k⟩ := r1.csT
    refine ⟨y, ?_, k⟩
    rw [hK]
    exact tru_of r1.1.hs t e
/-- .. a comparison, whose value is a bool -/
@[simp] def blD : D × Bool → Option Bool
  | (.bl b, _) => some b
  | _ => none
def mBl (ma : M (D × Bool)) : M Bool := ma.bind fun a => M.opt (blD a)
theorem RA.optT {α : Type} {x : Option α} {σ : SS} {H S : Hp} {mu : List Addr} {env : Env} {cs : Cells} {Q : α → Hp → Prop} (h : RA g F W TEq (M.opt x) σ H S mu env cs Q) : ∃ y, x = some y ∧ Q y H := by
  obtain ⟨r, q⟩ := h
  cases x with
  | none => exact q.elim
  | some y => exact ⟨y, rfl, q y H S mu .refl r rfl⟩
theorem res_bl {F : Ent} {σ : SS} {env : Env} {H S : Hp} {mu : List Addr} {v : V} {r : D × Bool} {k : Bool} (x : Res g F σ env H S mu v r.1 r.2) (e : blD r = some k) : v = .bl k := by
  obtain ⟨d, fr⟩ := r
  cases d <;> first | (simp [blD] at e; done) | skip
  cases e
  cases fr with
  | false => cases x; rfl
  | true =>
    obtain ⟨a, _, _, _, _, h, _⟩ := x
    exact h.elim
theorem iBl {m : M (D × Bool)} {σ : SS} {H : Hp} {Q : Bool → Hp → Prop} (q : rdT g F W (mBl m) σ H Q) : rdE g F W m σ H fun x H' => ∃ k, x = .bl k ∧ Q k H' :=
  rd_bind q fun r env1 cs1 v H1 S1 mu1 t r1 => by
    obtain ⟨y, e, k⟩ := r1.optT
    exact ⟨y, res_bl t e, k⟩
theorem sNotT {ma : M Bool} (ha : PT X a (rdT g F W ma)) : PT X (.UnaryOp .Not a pos) (rdT g F W (ma.bind fun b => M.pure (!b))) :=
  PT.imp (pt_not ha) fun σ H Q q => rd_bind q fun b env1 cs1 v H1 S1 mu1 t r1 => by
    subst t
    exact r1.pure rfl
def mAnd (ma mb : M Bool) : M Bool := ma.bind fun b => if b then mb else M.pure false
def mOr (ma mb : M Bool) : M Bool := ma.bind fun b => if b then M.pure true else mb
theorem sAnd1 {ma : M Bool} (ha : PT X a (rdT g F W ma)) : PW X (.BoolOp .And [a] pos) (rdT g F W ma) := pw_and1 ha
theorem sOr1 {ma : M Bool} (ha : PT X a (rdT g F W ma)) : PW X (.BoolOp .Or [a] pos) (rdT g F W ma) := pw_or1 ha
theorem PW.imp {t t' : TT} (h : PW X e t) (i : ∀ σ H Q, t' σ H Q → t σ H Q) : PW X e t' := ⟨fun wh pins s σ H Q I q => h.run wh pins s σ H Q I (i σ H Q q)⟩
theorem sAndC {rest : List Expr} {ma mb : M Bool} (ha : PT X a (rdT g F W ma)) (hb : PW X (.BoolOp .And (b :: rest) pos) (rdT g F W mb)) : PW X (.BoolOp .And (a :: b :: rest) pos) (rdT g F W (mAnd ma mb)) :=
  PW.imp (pw_and ha hb) fun σ H Q q => rd_bind q fun c env1 cs1 v H1 S1 mu1 t r1 => by
    subst t
    cases v with
    | true => rw [if_pos rfl]; exact r1.rd
    | false => rw [if_neg (by decide)]; exact r1.pure rfl
theorem sOrC {rest : List Expr} {ma mb : M Bool} (ha : PT X a (rdT g F W ma)) (hb : PW X (.BoolOp .Or (b :: rest) pos) (rdT g F W mb)) : PW X (.BoolOp .Or (a :: b :: rest) pos) (rdT g F W (mOr ma mb)) :=
  PW.imp (pw_or ha hb) fun σ H Q q => rd_bind q fun c env1 cs1 v H1 S1 mu1 t r1 => by
    subst t
    cases v with
    | true => rw [if_pos rfl]; exact r1.pure rfl
    | false => rw [if_neg (by decide)]; exact r1.rd
def mIf {α : Type} (mt : M Bool) (ma mb : M α) : M α := mt.bind fun b => if b then ma else mb
theorem sIfE {c : Expr} {mt : M Bool} {ma mb : M (D × Bool)} (hc : PT X c (rdT g F W mt)) (ha : PE X a (rdE g F W ma)) (hb : PE X b (rdE g F W mb)) : PE X (.IfExp c a b pos) (rdE g F W (mIf mt ma mb)) :=
  PE.imp (pe_ifExp hc ha hb) fun σ H Q q => rd_bind q fun k env1 cs1 v H1 S1 mu1 t r1 => by
    subst t
    cases v with
    | true => rw [if_pos rfl]; exact r1.rd
    | false => rw [if_neg (by decide)]; exact r1.rd

/-! ### not, and, or as values -/
def mNotV (ma : M D) : M (D × Bool) := ma.bind fun a => mCs fun cs => (trC cs a).map fun k => (.bl (!k), false)
theorem sNotV {ma : M D} (hK : X.K = g.K) (ha : PE X a (rdO g F W ma)) : PE X (.UnaryOp .Not a pos) (rdE g F W (mNotV ma)) :=
  PE.imp (pe_notT ha) fun σ H Q q => rd_bind q fun d env1 cs1 v H1 S1 mu1 t r1 => by
    obtain ⟨y, e, k⟩ := r1.cs
    cases e2 : trC cs1 d with
    | none => rw [e2] at e; cases e
    | some z =>
      rw [e2] at e
      cases e
      refine ⟨z, ?_, k _ _ _ (.val (.bl _))⟩
      rw [hK]
      exact tru_of r1.1.hs t e2
/-- x and y: x if it is not true -/
def mAndV (ma : M D) (mb : M (D × Bool)) : M (D × Bool) := ma.bind fun a => (mCs fun cs => trC cs a).bind fun k => if k then mb else M.pure (a, false)
def mOrV (ma : M D) (mb : M (D × Bool)) : M (D × Bool) := ma.bind fun a => (mCs fun cs => trC cs a).bind fun k => if k then M.pure (a, false) else mb
theorem RA.csB {α α' β' : Type} {T' : SS → Env → Hp → Hp → List Addr → β' → α' → Prop} {f : Cells → Option α} {k : α → M α'} {σ : SS} {H S : Hp} {mu : List Addr} {env : Env} {cs : Cells} {Q : β' → Hp → Prop}
    (h : RA g F W T' ((mCs f).bind k) σ H S mu env cs Q) : ∃ y, f cs = some y ∧ RA g F W T' (k y) σ H S mu env cs Q := by
  obtain ⟨r, q⟩ := h
  rw [Post.bind] at q
  unfold mCs M.opt at q
  cases e : f cs with
  | none => rw [e] at q; exact q.elim
  | some y => rw [e] at q; exact ⟨y, rfl, r, q⟩
theorem sAndV {rest : List Expr} {ma : M D} {mb : M (D × Bool)} (hK : X.K = g.K) (ha : PE X a (rdZ g F W ma)) (hb : PE X (.BoolOp .And (b :: rest) pos) (rdE g F W mb)) : PE X (.BoolOp .And (a :: b :: rest) pos) (rdE g F W (mAndV ma mb)) :=
  PE.imp (pe_andT ha hb) fun σ H Q q => rd_bind q fun d env1 cs1 v H1 S1 mu1 t r1 => by
    obtain ⟨y, e, r2⟩ := r1.csB
    refine ⟨y, ?_, ?_⟩
    · rw [hK]
      exact tru_of r1.1.hs (.inl t) e
    · cases y with
      | true => rw [if_pos rfl]; exact r2.rd
      | false => rw [if_neg (by decide)]; exact r2.pure t
theorem sOrV {rest : List Expr} {ma : M D} {mb : M (D × Bool)} (hK : X.K = g.K) (ha : PE X a (rdZ g F W ma)) (hb : PE X (.BoolOp .Or (b :: rest) pos) (rdE g F W mb)) : PE X (.BoolOp .Or (a :: b :: rest) pos) (rdE g F W (mOrV ma mb)) :=
  PE.imp (pe_orT ha hb) fun σ H Q q => rd_bind q fun d env1 cs1 v H1 S1 mu1 t r1 => by
    obtain ⟨y, e, r2⟩ := r1.csB
    refine ⟨y, ?_, ?_⟩
    · rw [hK]
      exact tru_of r1.1.hs (.inl t) e
    · cases y with
      | true => rw [if_pos rfl]; exact r2.pure t
      | false => rw [if_neg (by decide)]; exact r2.rd
end
end EL
namespace EL
open PySem PySem.Spec L2

/-! ### operations by what their operands are -/
abbrev F2 := D → D → Option (D × Bool)
@[simp] def dr2 (f : F2) : OpF2 := fun cs a b => (dr cs a).bind fun x => (dr cs b).bind fun y => f x y
def OpV (g : Glob) (f : F2) (r : R2) : Prop := ∀ (H S : Hp) (mu : List Addr) (cs : Cells) (v w : V) (a b : D) (x : D × Bool) (Q : VK), HS g H S mu cs → Vw g H S mu v a → Vw g H S mu w b → f a b = some x →
  (∀ u H' S', OpRes g H S mu H' S' u x.1 x.2 → Q u H') → r v w H Q
theorem OpV.ok {g : Glob} {f : F2} {r : R2} (h : OpV g f r) : OpOk g (dr2 f) r := fun H S mu cs v w a b x Q hs va vb e k => by
  unfold dr2 at e
  cases e1 : dr cs a with
  | none => rw [e1] at e; cases e
  | some a' =>
    rw [e1] at e
    cases e2 : dr cs b with
    | none => rw [e2] at e; cases e
    | some b' =>
      rw [e2] at e
      exact h _ _ _ _ _ _ _ _ _ _ hs (va.dr hs e1) (vb.dr hs e2) e k
/-- two roads -/
@[simp] def orF (f f' : F2) : F2 := fun a b => match f a b with
  | some x => some x
  | none => f' a b
theorem OpV.or {g : Glob} {f f' : F2} {r r' : R2} (h : OpV g f r) (h' : OpV g f' r') : OpV g (orF f f') (fun x y H Q => r x y H Q ∨ r' x y H Q) := fun H S mu cs v w a b x Q hs va vb e k => by
  unfold orF at e
  cases e1 : f a b with
  | some y => rw [e1] at e; cases e; exact .inl (h _ _ _ _ _ _ _ _ _ _ hs va vb e1 k)
  | none => rw [e1] at e; exact .inr (h' _ _ _ _ _ _ _ _ _ _ hs va vb e k)
/-- ints -/
def intF (C : Int → Int → Bool) (f : Int → Int → D) : F2
  | .int i, .int j => if C i j then some (f i j, false) else none
  | _, _ => none
theorem OpV.int {g : Glob} {C : Int → Int → Bool} {P : Int → Int → Prop} {f : Int → Int → D} {fV : Int → Int → V} (hC : ∀ i j, C i j = true → P i j) (hf : ∀ i j S mu, Rp g S mu (fV i j) (f i j)) : OpV g (intF C f) (rI P fV) :=
  fun H S mu cs v w a b x Q hs va vb e k => by
    cases a <;> cases b <;> first | (simp [intF] at e; done) | skip
    rename_i i j
    simp only [intF] at e
    split at e
    · rename_i hc
      cases e
      exact ⟨i, j, va.int, vb.int, hC i j hc, k _ _ _ (.val (hf i j S mu))⟩
    · cases e
theorem OpV.int0 {g : Glob} {f : Int → Int → D} {fV : Int → Int → V} (hf : ∀ i j S mu, Rp g S mu (fV i j) (f i j)) : OpV g (intF (fun _ _ => true) f) (rI0 fV) :=
  fun H S mu cs v w a b x Q hs va vb e k => by
    cases a <;> cases b <;> first | (simp [intF] at e; done) | skip
    rename_i i j
    simp only [intF, if_pos] at e
    cases e
    exact ⟨i, j, va.int, vb.int, k _ _ _ (.val (hf i j S mu))⟩
/-- texts -/
def strF (C : Str → Str → Bool) (f : Str → Str → D) : F2
  | .str i, .str j => if C i j then some (f i j, false) else none
  | _, _ => none
theorem OpV.str {g : Glob} {C : Str → Str → Bool} {f : Str → Str → D} {fV : Str → Str → V} {r : R2} (hf : ∀ i j S mu, Rp g S mu (fV i j) (f i j)) (hr : ∀ i j H Q, C i j = true → Q (fV i j) H → r (.str i) (.str j) H Q) : OpV g (strF C f) r :=
  fun H S mu cs v w a b x Q hs va vb e k => by
    cases a <;> cases b <;> first | (simp [strF] at e; done) | skip
    rename_i i j
    simp only [strF] at e
    split at e
    · rename_i hc
      cases e
      cases va.str
      cases vb.str
      exact hr i j H Q hc (k _ _ _ (.val (hf i j S mu)))
    · cases e

/-! ### lists put together, repeated -/
section
variable {X : Cx}
def rCatL (K : PySem.W.Frag) : R2 := fun x y H Q => ∃ a b xs ys, x = .ref a ∧ y = .ref b ∧ SqL K H a xs ∧ SqL K H b ys ∧ xs.length + ys.length ≤ sizeLine ∧ ∀ p, H p = none → Q (.ref p) (upd H p (.lst (xs ++ ys)))
theorem op_catL : OpR X (binaryOp .Add) (rCatL X.K) := by
  intro pins s σ H x y v u Q I rx ry h
  obtain ⟨a, b, xs, ys, rfl, rfl, ha, hb, hz, q⟩ := h
  cases rx
  cases ry
  obtain ⟨is1, r1, ⟨⟨c1, d1, t1, l1⟩, n1, o1, hc1, hd1, ht1⟩, z1⟩ := I.list ha
  obtain ⟨is2, r2, ⟨⟨c2, d2, t2, l2⟩, n2, o2, hc2, hd2, ht2⟩, z2⟩ := I.list hb
  simp only at hc1 hd1 ht1 hc2 hd2 ht2
  subst hc1 hd1 ht1 hc2 hd2 ht2
  have e : is1.toArray ++ is2.toArray = (is1 ++ is2).toArray := by simp
  have hl1 := r1.length
  have hl2 := r2.length
  refine concat_meets ⟨_, o1, rfl⟩ ⟨_, o2, rfl⟩ noFill_list_add seq_list_add F.slot_list_add F.entry_list_add (F.args_list_add_2 _ _)
    (PyProof.Rows.list_addW a b is1.toArray is2.toArray n1 n2 none none l1 l2 (by rw [List.size_toArray, List.size_toArray]; omega)) ⟨o1, o2, ?_⟩
  rw [e]
  exact ⟨.ref _, _, I.lnew (t' := s.toks) (r1.append r2) (by rw [List.length_append]; omega), rfl, q _ I.fresh⟩
def rRepL (K : PySem.W.Frag) : R2 := fun x y H Q => ∃ a k xs, x = .ref a ∧ y = .int k ∧ SqL K H a xs ∧ -(2 ^ 63) ≤ k ∧ k < 2 ^ 63 ∧ xs.length * k.toNat ≤ sizeLine ∧ ∀ p, H p = none → Q (.ref p) (upd H p (.lst (List.replicate k.toNat xs).flatten))
theorem op_repL : OpR X (binaryOp .Mult) (rRepL X.K) := by
  intro pins s σ H x y v u Q I rx ry h
  obtain ⟨a, k, xs, rfl, rfl, ha, k1, k2, hz, q⟩ := h
  cases rx
  obtain ⟨t, rfl⟩ := ry
  obtain ⟨its, r, ⟨⟨c1, d1, t1, l1⟩, n, ho, hc1, hd1, ht1⟩, z1⟩ := I.list ha
  simp only at hc1 hd1 ht1
  subst hc1 hd1 ht1
  have hl := r.length
  have hsz : its.toArray.size * k.toNat ≤ 2 ^ 24 := by
    have e : sizeLine = 2 ^ 24 := rfl
    rw [List.size_toArray, ← hl]; omega
  refine wpAny_binaryOp_repeat_ref (T := "list") (U := "int") (by decide) ⟨_, ho, rfl⟩ (fun s' => typeIs_int s' k t) noFill_list_mul F.fills_int_mul F.slot_int_rmul repeat_list F.slot_int_index.lookup
    (call_meets F.slot_int_rmul (typeIs_int s k t) F.entry_int_rmul (F.args_int_rmul_2 _ _) (lm_int_rmul_list_any k t a its.toArray n none l1)
      ⟨ho, rfl, ⟨_, ho, rfl⟩, call_meets F.slot_list_mul ⟨_, ho, rfl⟩ F.entry_list_mul (F.args_list_mul_2 _ _)
        (lm_list_mul_any a its.toArray n none l1 k t (by simp [Builtin.List.listFitsIndex]; omega) (by omega) (by simp [Builtin.List.listTooLong, sizeLine]; omega)) ⟨ho, ?_⟩⟩)
  rw [PyProof.Rows.listMul_foldl_if]
  exact ⟨.ref _, _, I.lnew (t' := s.toks) (r.rep k.toNat) (by rw [PyProof.Rows.lm_len_rep_flat, Nat.mul_comm]; exact hz), rfl, q _ I.fresh⟩
def rMulS : R2 := fun x y H Q => ∃ z n, x = .str z ∧ y = .int n ∧ MulOk z n ∧ Q (.str (Txt.mul z n)) H
theorem op_mulS : OpR X (binaryOp .Mult) rMulS := by
  intro pins s σ H x y v u Q I rx ry h
  obtain ⟨z, n, rfl, rfl, hz, q⟩ := h
  obtain ⟨t, rfl⟩ := rx
  obtain ⟨t', rfl⟩ := ry
  exact SB.mul hz fun t' k => ⟨.str _, H, I.tok _, ⟨_, rfl⟩, q⟩
end
theorem RpL.rep {g : Glob} {S mu} {vs ds} (r : RpL g S mu vs ds) : ∀ k : Nat, RpL g S mu (List.replicate k vs).flatten (List.replicate k ds).flatten
  | 0 => .nil
  | k + 1 => by
    rw [List.replicate_succ, List.replicate_succ, List.flatten_cons, List.flatten_cons]
    exact r.append (RpL.rep r k)

/-! ### + - * // % ** -/
def catF : F2
  | .lst a, .lst b => if a.length + b.length ≤ sizeLine then some (.lst (a ++ b), true) else none
  | _, _ => none
def catT : F2
  | .tup a, .tup b => if a.length + b.length ≤ sizeLine then some (.tup (a ++ b), false) else none
  | _, _ => none
@[simp] def opAdd : F2
  | .int i, .int j => some (.int (i + j), false)
  | .str x, .str y => if x.length + y.length ≤ sizeLine then some (.str (x ++ y), false) else none
  | .lst a, .lst b => if a.length + b.length ≤ sizeLine then some (.lst (a ++ b), true) else none
  | .tup a, .tup b => if a.length + b.length ≤ sizeLine then some (.tup (a ++ b), false) else none
  | _, _ => none
theorem opAdd_eq : opAdd = orF (intF (fun _ _ => true) fun i j => .int (i + j)) (orF (strF (fun x y => decide (x.length + y.length ≤ sizeLine)) fun x y => .str (x ++ y)) (orF catF catT)) := by
  funext a b
  cases a <;> cases b <;> first | rfl | skip
  all_goals (simp only [opAdd, orF, intF, strF, catF, catT, decide_eq_true_eq]; split <;> rfl)
section
variable {g : Glob} {X : Cx}
theorem v_catF : OpV g catF (rCatL g.K) := fun H S mu cs v w a b x Q hs va vb e k => by
  cases a <;> cases b <;> first | (simp [catF] at e; done) | skip
  simp only [catF] at e
  split at e
  · rename_i hl
    cases e
    obtain ⟨a, xs, rfl, h1, h2⟩ := va.lst hs
    obtain ⟨b, ys, rfl, h3, h4⟩ := vb.lst hs
    exact ⟨a, b, xs, ys, rfl, rfl, h1, h3, by rw [h2.length, h4.length]; exact hl, fun p hp => k _ _ _ (OpRes.lst hs hp (h2.append h4))⟩
  · cases e
theorem v_catT : OpV g catT (rCatA g.K) := fun H S mu cs v w a b x Q hs va vb e k => by
  cases a <;> cases b <;> first | (simp [catT] at e; done) | skip
  simp only [catT] at e
  split at e
  · rename_i hl
    cases e
    rename_i ds es
    obtain ⟨a, xs, rfl, h1, h2⟩ := va.tup hs
    obtain ⟨b, ys, rfl, h3, h4⟩ := vb.tup hs
    have rp1 : Rp g S mu (.ref a) (.tup ds) := by
      rcases va with z | ⟨_, _, z⟩
      · exact z
      · exact z.elim
    have rp2 : Rp g S mu (.ref b) (.tup es) := by
      rcases vb with z | ⟨_, _, z⟩
      · exact z
      · exact z.elim
    refine ⟨a, b, xs, ys, rfl, rfl, h1, h3, by rw [h2.length, h4.length]; exact hl, fun e1 => ?_, fun _ e2 => ?_, fun _ _ p hp => k _ _ _ (OpRes.tup hs hp (h2.append h4))⟩
    · subst e1
      cases h2
      exact k _ _ _ (.val rp2)
    · subst e2
      cases h4
      rw [List.append_nil] at k
      exact k _ _ _ (.val rp1)
  · cases e
/-- an operation of the language is told by f -/
def OpS (g : Glob) (F : Value → Value → Sem Value) (f : F2) : Prop := ∀ X : Cx, X.K = g.K → X.A.units + 64 < cLine → ∃ r, OpR X F r ∧ OpV g f r
theorem s_add : OpS g (binaryOp .Add) opAdd := fun X hK _ => by
  rw [opAdd_eq]
  exact ⟨_, op_add.or (op_add_str.or (op_catL.or op_catA)), OpV.or (OpV.int0 fun _ _ _ _ => .int _) (OpV.or (OpV.str (fV := fun x y => .str (x ++ y)) (fun _ _ _ _ => .str _) fun i j H Q hc q => ⟨i, j, rfl, rfl, of_decide_eq_true hc, q⟩) (OpV.or (hK ▸ v_catF) (hK ▸ v_catT)))⟩
@[simp] def opSub : F2
  | .int i, .int j => some (.int (i - j), false)
  | _, _ => none
theorem s_sub : OpS g (binaryOp .Sub) opSub := fun X hK _ => by
  have e : opSub = intF (fun _ _ => true) fun i j => .int (i - j) := by
    funext a b; cases a <;> cases b <;> rfl
  rw [e]
  exact ⟨_, op_sub, OpV.int0 fun _ _ _ _ => .int _⟩
/-- few bits together -/
def mulFit (i j : Int) : Bool := decide (i.natAbs.log2 + j.natAbs.log2 < 1000000)
def mulSFit (z : Str) (n : Int) : Bool := decide (z.length ≤ 1000 ∧ -1000 ≤ n ∧ n ≤ 1000)
def repF : F2
  | .lst a, .int k => if decide (-1000000 ≤ k ∧ k ≤ 1000000 ∧ a.length * k.toNat ≤ sizeLine) then some (.lst (List.replicate k.toNat a).flatten, true) else none
  | _, _ => none
def mulS : F2
  | .str z, .int n => if mulSFit z n then some (.str (Txt.mul z n), false) else none
  | _, _ => none
@[simp] def opMul : F2
  | .int i, .int j => if mulFit i j then some (.int (i * j), false) else none
  | .str z, .int n => if mulSFit z n then some (.str (Txt.mul z n), false) else none
  | .lst a, .int k => if decide (-1000000 ≤ k ∧ k ≤ 1000000 ∧ a.length * k.toNat ≤ sizeLine) then some (.lst (List.replicate k.toNat a).flatten, true) else none
  | _, _ => none
theorem opMul_eq : opMul = orF (intF mulFit fun i j => .int (i * j)) (orF mulS repF) := by
  funext a b
  cases a <;> cases b <;> first | rfl | skip
  all_goals (simp only [opMul, orF, intF, mulS, repF]; split <;> rfl)
theorem v_repF : OpV g repF (rRepL g.K) := fun H S mu cs v w a b x Q hs va vb e k => by
  cases a <;> cases b <;> first | (simp [repF] at e; done) | skip
  simp only [repF] at e
  split at e
  · rename_i hl
    cases e
    obtain ⟨h0, h1, h2⟩ := of_decide_eq_true hl
    obtain ⟨a, xs, rfl, h3, h4⟩ := va.lst hs
    exact ⟨a, _, xs, rfl, vb.int, h3, by omega, by omega, by rw [h4.length]; exact h2, fun p hp => k _ _ _ (OpRes.lst hs hp (h4.rep _))⟩
  · cases e
theorem mulS_ok {z : Str} {n : Int} (h : mulSFit z n = true) : MulOk z n := by
  obtain ⟨h0, h1, h2⟩ := of_decide_eq_true h
  refine ⟨?_, fun h3 _ => ?_, fun h3 _ => ?_⟩
  · rw [decide_eq_false (by omega), decide_eq_false (by omega)]; rfl
  · have : (1000 : Int) ≤ (2 ^ 63 - 1) / n := (Int.le_ediv_iff_mul_le (by omega)).mpr (by omega)
    omega
  · have : z.length * n.toNat ≤ 1000 * 1000 := Nat.mul_le_mul h0 (by omega)
    show (decide (z.length * n.toNat > sizeLine)) = false
    rw [decide_eq_false]
    have : sizeLine = 16777216 := rfl
    omega
theorem v_mulS : OpV g mulS rMulS := fun H S mu cs v w a b x Q hs va vb e k => by
  cases a <;> cases b <;> first | (simp [mulS] at e; done) | skip
  simp only [mulS] at e
  split at e
  · rename_i hl
    cases e
    exact ⟨_, _, va.str, vb.int, mulS_ok hl, k _ _ _ (.val (.str _))⟩
  · cases e
theorem s_mul : OpS g (binaryOp .Mult) opMul := fun X hK _ => by
  rw [opMul_eq]
  exact ⟨_, op_mulW.or (op_mulS.or op_repL), OpV.or (OpV.int (P := CMulW) (fun i j h => by unfold CMulW; exact of_decide_eq_true h) fun _ _ _ _ => .int _) (OpV.or v_mulS (hK ▸ v_repF))⟩
def divFit (j : Int) : Bool := decide (0 < j ∧ j.natAbs.log2 < 9000)
@[simp] def opFdiv : F2
  | .int i, .int j => if divFit j then some (.int (i / j), false) else none
  | _, _ => none
theorem s_fdiv : OpS g (binaryOp .FloorDiv) opFdiv := fun X hK _ => by
  have e : opFdiv = intF (fun _ j => divFit j) fun i j => .int (i / j) := by
    funext a b; cases a <;> cases b <;> rfl
  rw [e]
  exact ⟨_, op_fdivW, OpV.int (fun i j h => by unfold CDivW; exact of_decide_eq_true h) fun _ _ _ _ => .int _⟩
@[simp] def opMod : F2
  | .int i, .int j => if decide (j ≠ 0) then some (.int (i.fmod j), false) else none
  | _, _ => none
theorem s_mod : OpS g (binaryOp .Mod) opMod := fun X hK _ => by
  have e : opMod = intF (fun _ j => decide (j ≠ 0)) fun i j => .int (i.fmod j) := by
    funext a b; cases a <;> cases b <;> rfl
  rw [e]
  exact ⟨_, op_modN, OpV.int (fun i j h => of_decide_eq_true h) fun _ _ _ _ => .int _⟩
def powFit (i j : Int) : Bool := decide (0 ≤ j ∧ j ≤ 1000000 ∧ i.natAbs < 2 ^ 64)
@[simp] def opPow : F2
  | .int i, .int j => if powFit i j then some (.int (i ^ j.toNat), false) else none
  | _, _ => none
theorem s_pow : OpS g (binaryOp .Pow) opPow := fun X hK _ => by
  have e : opPow = intF powFit fun i j => .int (i ^ j.toNat) := by
    funext a b; cases a <;> cases b <;> rfl
  rw [e]
  exact ⟨_, op_pow, OpV.int (fun i j h => by unfold CPow; exact of_decide_eq_true h) fun _ _ _ _ => .int _⟩
end
end EL
namespace EL
open PySem PySem.Spec L2

/-! ### statements -/
inductive Fl where
  | nx | bk | ct
  | rt (d : D) (fr : Bool)
abbrev ExS (g : Glob) (F : Ent) (W : WX) (k : Nat) (fs : List (Str × D)) (env : Env) (cs : Cells) : Prop := ∀ σ, ExW g F W σ k fs env cs
def KS (g : Glob) (F : Ent) (E : Ends) : Fl → Env → Cells → Prop
  | .nx, env, cs => ∀ σ H S mu, Rel g F σ H S mu env cs → E.nx σ H
  | .bk, env, cs => ∀ σ H S mu, Rel g F σ H S mu env cs → E.bk σ H
  | .ct, env, cs => ∀ σ H S mu, Rel g F σ H S mu env cs → E.ct σ H
  | .rt d fr, env, cs => ∀ v σ H S mu, Rel g F σ H S mu env cs → Res g F σ env H S mu v d fr → E.rt v H
def PoS (g : Glob) (F : Ent) (W : WX) (E : Ends) (m : M Fl) (env : Env) (cs : Cells) : Prop := Post (m env cs) (KS g F E) (ExS g F W)
def rdS (g : Glob) (F : Ent) (W : WX) (m : M Fl) : TS := fun E σ H => ∃ S mu env cs, Rel g F σ H S mu env cs ∧ PoS g F W E m env cs
theorem PoS.bind {α : Type} {g F W E env cs} {m : M α} {f : α → M Fl} : PoS g F W E (m.bind f) env cs = Post (m env cs) (fun a e c => PoS g F W E (f a) e c) (ExS g F W) := Post.bind
/-- an expression's run at a statement's start -/
theorem rdS.ex {α β : Type} {g F W E σ H} {T : SS → Env → Hp → Hp → List Addr → β → α → Prop} {m : M α} {f : α → M Fl} {Q : β → Hp → Prop} (h : rdS g F W (m.bind f) E σ H)
    (i : ∀ a env cs v H S mu, Rel g F σ H S mu env cs → T σ env H S mu v a → PoS g F W E (f a) env cs → Q v H) : rd g F W T m σ H Q := by
  obtain ⟨S, mu, env, cs, r, q⟩ := h
  rw [PoS.bind] at q
  exact ⟨S, mu, env, cs, r, Post.mono q (fun a e c p v H' S' mu' gr rl t => i a e c v H' S' mu' rl t p) fun k fs e c z => z σ⟩
section
variable {g : Glob} {F : Ent} {W : WX} {X : Cx} {e : Expr} {st : Stmt} {rest : List Stmt} {pos : Pos}
def mSeq (m m' : M Fl) : M Fl := m.bind fun fl => match fl with
  | .nx => m'
  | fl => M.pure fl
theorem sSNil : PSs X [] (rdS g F W (M.pure .nx)) := PSs.imp pss_nil fun E σ H ⟨S, mu, env, cs, r, q⟩ => q σ H S mu r
theorem sSCons {m m' : M Fl} (h : PS X st (rdS g F W m)) (h' : PSs X rest (rdS g F W m')) : PSs X (st :: rest) (rdS g F W (mSeq m m')) := PSs.imp (pss_cons h h') fun E σ H ⟨S, mu, env, cs, r, q⟩ => by
  unfold mSeq at q
  rw [PoS.bind] at q
  refine ⟨S, mu, env, cs, r, q.on fun fl e c p => ?_⟩
  cases fl with
  | nx => exact fun σ' H' S' mu' r' => ⟨S', mu', e, c, r', p⟩
  | bk => exact p
  | ct => exact p
  | rt d fr => exact p
theorem sPass : PS X (.Pass pos) (rdS g F W (M.pure .nx)) := PS.imp ps_pass fun E σ H ⟨S, mu, env, cs, r, q⟩ => q σ H S mu r
theorem sBreak : PS X (.Break pos) (rdS g F W (M.pure .bk)) := PS.imp ps_break fun E σ H ⟨S, mu, env, cs, r, q⟩ => q σ H S mu r
theorem sCont : PS X (.Continue pos) (rdS g F W (M.pure .ct)) := PS.imp ps_continue fun E σ H ⟨S, mu, env, cs, r, q⟩ => q σ H S mu r
theorem sDoc {x j p2} : PS X (.Expr (.Constant (.str x) j p2) pos) (rdS g F W (M.pure .nx)) := PS.imp ps_doc fun E σ H ⟨S, mu, env, cs, r, q⟩ => q σ H S mu r
def mDrop (m : M (D × Bool)) : M Fl := m.bind fun _ => M.pure .nx
def noComp : Expr → Bool
  | .ListComp _ _ _ _ => false
  | .SetComp _ _ _ _ => false
  | .DictComp _ _ _ _ _ => false
  | _ => true
theorem noComp_sw (h : noComp e = true) {t : Option Expr} {l : Nat} {env : PySem.Env} : swapsWith e t l env = pure false := by
  cases e <;> first | rfl | (simp [noComp] at h; done)
theorem sExpr {m : M (D × Bool)} (he : PE X e (rdE g F W m)) (hn : noComp e = true) : PS X (.Expr e pos) (rdS g F W (mDrop m)) := PS.imp (ps_expr he (noComp_sw hn)) fun E σ H q =>
  rdS.ex q fun a env cs v H' S mu r t p => p σ H' S mu r
def mRet (m : M (D × Bool)) : M Fl := m.bind fun r => M.pure (.rt r.1 r.2)
theorem sRet {m : M (D × Bool)} (he : PE X e (rdE g F W m)) : PS X (.Return (some e) pos) (rdS g F W (mRet m)) := PS.imp (ps_ret he) fun E σ H q =>
  rdS.ex q fun a env cs v H' S mu r t p => p v σ H' S mu r t
theorem sRetN : PS X (.Return none pos) (rdS g F W (M.pure (.rt .non false))) := PS.imp ps_retN fun E σ H ⟨S, mu, env, cs, r, q⟩ => q .non σ H S mu r .non
theorem sIf {c : Expr} {a b : List Stmt} {mt : M Bool} {ma mb : M Fl} (hc : PT X c (rdT g F W mt)) (ha : PSs X a (rdS g F W ma)) (hb : PSs X b (rdS g F W mb)) : PS X (.If c a b pos) (rdS g F W (mIf mt ma mb)) :=
  PS.imp (ps_if hc ha hb) fun E σ H q => rdS.ex q fun k env cs v H' S mu r t p => by
    subst t
    cases v with
    | true => rw [if_pos rfl]; exact ⟨S, mu, env, cs, r, p⟩
    | false => rw [if_neg (by decide)]; exact ⟨S, mu, env, cs, r, p⟩

/-! ### names stored -/
@[simp] def slotOf (r : D × Bool) : Slot := if r.2 then .ow r.1 else .fz r.1
def mPut (i : Nat) (r : D × Bool) : M Unit := fun env cs => if i < env.length then .ok () (env.set i (slotOf r)) cs else .stuck
theorem Rel.put {σ : SS} {H S : Hp} {mu : List Addr} {env : Env} {cs : Cells} (r : Rel g F σ H S mu env cs) {i : Nat} {v : V} {x : D × Bool} (hi : i < env.length) (t : Res g F σ env H S mu v x.1 x.2) : Rel g F (σ.set i (some v)) H S mu (env.set i (slotOf x)) cs := by
  obtain ⟨d, fr⟩ := x
  have hσ : i < σ.length := by rw [← r.len]; exact hi
  have hin : ∀ (j : Nat) (s : Slot), (env.set i (slotOf (d, fr)))[j]? = some s → (j = i ∧ s = slotOf (d, fr)) ∨ (j ≠ i ∧ env[j]? = some s ∧ (σ.set i (some v))[j]? = σ[j]?) := fun j s e => by
    by_cases hj : j = i
    · subst hj
      rw [List.getElem?_set_self hi] at e
      exact .inl ⟨rfl, (Option.some.inj e).symm⟩
    · rw [List.getElem?_set_ne (Ne.symm hj)] at e
      exact .inr ⟨hj, e, List.getElem?_set_ne (Ne.symm hj)⟩
  refine ⟨r.hs, r.fi, by rw [List.length_set, List.length_set]; exact r.len, fun j d' e => ?_, fun j d' e => ?_, fun j k d' d'' a e1 e2 h1 h2 => ?_⟩
  · rcases hin j _ e with ⟨hj, q⟩ | ⟨hj, q, e'⟩
    · subst hj
      cases fr with
      | false =>
        cases q
        exact ⟨v, List.getElem?_set_self hσ, t⟩
      | true => cases q
    · rw [e']
      exact r.fz j d' q
  · rcases hin j _ e with ⟨hj, q⟩ | ⟨hj, q, e'⟩
    · subst hj
      cases fr with
      | false => cases q
      | true =>
        cases q
        obtain ⟨a, rfl, h1, h2, h3, h4, _⟩ := t
        exact ⟨a, List.getElem?_set_self hσ, h1, h2, h3, h4⟩
    · rw [e']
      exact r.ow j d' q
  · have key : ∀ (j : Nat) d', env[j]? = some (.ow d') → slotOf (d, fr) = .ow d'' ∨ slotOf (d, fr) = .ow d' ∨ True → σ[j]? = some (some (.ref a)) → (σ.set i (some v))[i]? = some (some (.ref a)) → fr = true → False := fun j d' q _ q1 q2 hf => by
      subst hf
      obtain ⟨b, rfl, _, _, _, _, h5⟩ := t
      rw [List.getElem?_set_self hσ] at q2
      cases q2
      exact h5 j d' q q1
    have frt : ∀ d', Slot.ow d' = slotOf (d, fr) → fr = true := fun d' q => by
      cases fr with
      | false => cases q
      | true => rfl
    rcases hin j _ e1 with ⟨hj, q1⟩ | ⟨hj, q1, q1'⟩
    · rcases hin k _ e2 with ⟨hk, q2⟩ | ⟨hk, q2, q2'⟩
      · rw [hj, hk]
      · rw [q2'] at h2
        rw [hj] at h1
        exact (key k d'' q2 (.inr (.inr trivial)) h2 h1 (frt _ q1)).elim
    · rw [q1'] at h1
      rcases hin k _ e2 with ⟨hk, q2⟩ | ⟨hk, q2, q2'⟩
      · rw [hk] at h2
        exact (key j d' q1 (.inr (.inr trivial)) h1 h2 (frt _ q2)).elim
      · rw [q2'] at h2
        exact r.sep j k d' d'' a q1 q2 h1 h2
theorem Rel.putZ {σ : SS} {H S : Hp} {mu : List Addr} {env : Env} {cs : Cells} (r : Rel g F σ H S mu env cs) {i : Nat} {v : V} {d : D} (hi : i < env.length) (t : Rp g S mu v d) : Rel g F (σ.set i (some v)) H S mu (env.set i (.fz d)) cs := Rel.put (x := (d, false)) r hi t
def mSet (i : Nat) (m : M (D × Bool)) : M Fl := m.bind fun r => (mPut i r).bind fun _ => M.pure .nx
theorem PoS.put {E : Ends} {i : Nat} {x : D × Bool} {f : M Fl} {env : Env} {cs : Cells} (p : PoS g F W E ((mPut i x).bind fun _ => f) env cs) : i < env.length ∧ PoS g F W E f (env.set i (slotOf x)) cs := by
  rw [PoS.bind] at p
  unfold mPut at p
  by_cases hi : i < env.length
  · rw [if_pos hi] at p
    exact ⟨hi, p⟩
  · rw [if_neg hi] at p
    exact p.elim
theorem iSet {i : Nat} {m : M (D × Bool)} {E : Ends} {σ : SS} {H : Hp} (q : rdS g F W (mSet i m) E σ H) : tAsg (rdE g F W m) (gName i) E σ H :=
  rdS.ex q fun a env cs v H' S mu r t p => by
    obtain ⟨hi, p⟩ := p.put
    exact p _ H' S mu (r.put hi t)
theorem sSet {i : Nat} {x : Str} {p2 : Pos} {m : M (D × Bool)} (hN : X.N.Nodup) (hi : X.N[i]? = some x) (hx : Loc X.env.scope x) (hf : X.fn x = true ∨ X.env.scope.names.lookup x = some .local) (he : PE X e (rdE g F W m)) (hn : noComp e = true) :
    PS X (.Assign [.Name x p2] e pos) (rdS g F W (mSet i m)) := PS.imp (ps_set hN hi hx he (noComp_sw hn) hf) fun E σ H q => iSet q
end

/-! ### targets -/
/-- only the slots vs were stored to -/
structure Only (vs : List Nat) (σ σ' : SS) : Prop where
  len : σ'.length = σ.length
  at_ : ∀ j, j ∉ vs → σ'[j]? = σ[j]?
theorem Only.refl {vs σ} : Only vs σ σ := ⟨rfl, fun _ _ => rfl⟩
theorem Only.trans {vs σ σ1 σ2} (a : Only vs σ σ1) (b : Only vs σ1 σ2) : Only vs σ σ2 := ⟨b.len.trans a.len, fun j h => (b.at_ j h).trans (a.at_ j h)⟩
theorem Only.set {vs σ} {i : Nat} {x : Option V} (h : i ∈ vs) : Only vs σ (σ.set i x) := ⟨List.length_set, fun j hj => List.getElem?_set_ne (by rintro rfl; exact hj h)⟩
theorem wipe_at {σ : SS} : ∀ {vs : List Nat} {j : Nat}, (wipe σ vs)[j]? = if j ∈ vs ∧ j < σ.length then some none else σ[j]?
  | [], j => by simp [wipe]
  | v :: vs, j => by
    unfold wipe
    by_cases hj : v = j
    · subst hj
      by_cases hl : v < σ.length
      · rw [List.getElem?_set_self (by rw [wipe_length]; exact hl), if_pos ⟨List.mem_cons_self, hl⟩]
      · rw [if_neg (fun h => hl h.2), List.getElem?_eq_none (by rw [List.length_set, wipe_length]; omega), List.getElem?_eq_none (by omega)]
    · rw [List.getElem?_set_ne hj, wipe_at]
      have : (j ∈ v :: vs ∧ j < σ.length) ↔ (j ∈ vs ∧ j < σ.length) := by
        simp only [List.mem_cons]
        constructor
        · rintro ⟨h | h, h2⟩
          · exact absurd h.symm hj
          · exact ⟨h, h2⟩
        · rintro ⟨h, h2⟩
          exact ⟨.inr h, h2⟩
      simp only [this]
theorem Only.wipe {vs σ σ'} (h : Only vs σ σ') : wipe σ' vs = wipe σ vs := by
  apply List.ext_getElem?
  intro j
  rw [wipe_at, wipe_at, h.len]
  by_cases hj : j ∈ vs ∧ j < σ.length
  · rw [if_pos hj, if_pos hj]
  · rw [if_neg hj, if_neg hj]
    by_cases hv : j ∈ vs
    · have hl : ¬ j < σ.length := fun z => hj ⟨hv, z⟩
      rw [List.getElem?_eq_none (by rw [h.len]; omega), List.getElem?_eq_none (by omega)]
    · exact h.at_ j hv
/-- a target: a name's slot, or a tuple of such -/
inductive Tg where
  | name (i : Nat)
  | tup (ts : List Tg)
mutual
def mTg : Tg → D → M Unit
  | .name i, d => mPut i (d, false)
  | .tup ts, d => match d with
    | .tup ds => mTgs ts ds
    | _ => M.stuck
def mTgs : List Tg → List D → M Unit
  | [], ds => match ds with
    | [] => M.pure ()
    | _ :: _ => M.stuck
  | t :: ts, ds => match ds with
    | [] => M.stuck
    | d :: ds => (mTg t d).bind fun _ => mTgs ts ds
end
section
variable {g : Glob} {F : Ent} {W : WX} {X : Cx} {e : Expr} {es : List Expr} {pos : Pos}
def rdG (g : Glob) (F : Ent) (W : WX) (vs : List Nat) (m : D → M Unit) : TG := fun v σ H Q => ∃ S mu env cs d, Rel g F σ H S mu env cs ∧ Rp g S mu v d ∧
  Post (m d env cs) (fun _ env' cs' => ∀ σ' , Only vs σ σ' → Rel g F σ' H S mu env' cs' → Q σ' H) (fun _ _ _ _ => False)
def rdGs (g : Glob) (F : Ent) (W : WX) (vs : List Nat) (m : List D → M Unit) : TGs := fun v σ H Q => ∃ S mu env cs d, Rel g F σ H S mu env cs ∧ RpL g S mu v d ∧
  Post (m d env cs) (fun _ env' cs' => ∀ σ' , Only vs σ σ' → Rel g F σ' H S mu env' cs' → Q σ' H) (fun _ _ _ _ => False)
theorem PG.imp {t t' : TG} (h : PG X e t) (i : ∀ v σ H Q, t' v σ H Q → t v σ H Q) : PG X e t' := ⟨fun pins s σ H v u Q I r q => h.run pins s σ H v u Q I r (i v σ H Q q)⟩
theorem PGs.imp {t t' : TGs} (h : PGs X es t) (i : ∀ v σ H Q, t' v σ H Q → t v σ H Q) : PGs X es t' := ⟨fun pins s σ H v u Q I r q => h.run pins s σ H v u Q I r (i v σ H Q q)⟩
theorem post_put {i : Nat} {x : D × Bool} {env : Env} {cs : Cells} {K : Unit → Env → Cells → Prop} {KX} (p : Post (mPut i x env cs) K KX) : i < env.length ∧ K () (env.set i (slotOf x)) cs := by
  unfold mPut at p
  by_cases hi : i < env.length
  · rw [if_pos hi] at p
    exact ⟨hi, p⟩
  · rw [if_neg hi] at p
    exact p.elim
theorem sTgN {i : Nat} {x : Str} {vs : List Nat} (hv : i ∈ vs) (hN : X.N.Nodup) (hi : X.N[i]? = some x) (hx : Loc X.env.scope x) (hf : X.fn x = true ∨ X.env.scope.names.lookup x = some .local) : PG X (.Name x pos) (rdG g F W vs (mTg (.name i))) :=
  PG.imp (pg_name hN hi hx hf) fun v σ H Q ⟨S, mu, env, cs, d, r, t, p⟩ => by
    obtain ⟨hl, p⟩ := post_put p
    exact p _ (Only.set hv) (r.putZ hl t)
theorem sTgsNil {vs : List Nat} : PGs X [] (rdGs g F W vs (mTgs [])) := PGs.imp pgs_nil fun v σ H Q ⟨S, mu, env, cs, d, r, t, p⟩ => by
  cases t with
  | nil => exact ⟨rfl, p σ .refl r⟩
  | cons h1 h2 => exact p.elim
theorem assignEach_cons (h : ∀ x p, e ≠ .Starred x p) : (assignEach (e :: es) X.env).map (·.2) = assign e X.env :: (assignEach es X.env).map (·.2) := by
  cases e <;> first | rfl | exact absurd rfl (h _ _)
theorem sTgsCons {tg : Tg} {ts : List Tg} {vs : List Nat} (h0 : PG X e (rdG g F W vs (mTg tg))) (hs : ∀ x p, e ≠ .Starred x p) (h : PGs X es (rdGs g F W vs (mTgs ts))) :
    PGs X (e :: es) (rdGs g F W vs (mTgs (tg :: ts))) := PGs.imp (pgs_cons h0 h (assignEach_cons hs)) fun v σ H Q ⟨S, mu, env, cs, d, r, t, p⟩ => by
  cases t with
  | nil => exact p.elim
  | cons h1 h2 =>
    have p : Post ((mTg tg _).bind (fun _ => mTgs ts _) env cs) _ _ := p
    rw [Post.bind] at p
    refine ⟨_, _, rfl, S, mu, env, cs, _, r, h1, ?_⟩
    exact p.on fun _ e' c' k σ' on r' => ⟨S, mu, e', c', _, r', h2, k.on fun _ e2 c2 k2 σ2 on2 r2 => k2 σ2 (on.trans on2) r2⟩
theorem mTgs_len : ∀ (ts : List Tg) (ds : List D) (env : Env) (cs : Cells) {K : Unit → Env → Cells → Prop}, Post (mTgs ts ds env cs) K (fun _ _ _ _ => False) → ds.length = ts.length
  | [], [], _, _, _, _ => rfl
  | [], _ :: _, _, _, _, p => p.elim
  | _ :: _, [], _, _, _, p => p.elim
  | t :: ts, d :: ds, env, cs, K, p => by
    have p : Post ((mTg t d).bind (fun _ => mTgs ts ds) env cs) K (fun _ _ _ _ => False) := p
    rw [Post.bind] at p
    have q : ds.length = ts.length := by
      cases e : mTg t d env cs with
      | stuck => rw [e] at p; exact p.elim
      | ok a env' cs' => rw [e] at p; exact mTgs_len ts ds env' cs' p
      | exc k fs env' cs' => rw [e] at p; exact p.elim
    rw [List.length_cons, List.length_cons, q]
theorem sTgT {k : Nat} {ts : List Tg} {vs : List Nat} (hK : X.K = g.K) (hc : X.calm = true) (h : PGs X es (rdGs g F W vs (mTgs ts))) (hl : es.length = ts.length) (hn : (assignEach es X.env).length = es.length) (hst : (assignEach es X.env).findIdx? (·.1) = none) :
    PG X (.Tuple es k pos) (rdG g F W vs (mTg (.tup ts))) := PG.imp (pg_tup hc h (n := es.length) hn hst) fun v σ H Q ⟨S, mu, env, cs, d, r, t, p⟩ => by
  cases d <;> first | exact p.elim | skip
  rename_i ds
  have w : Vw g H S mu v (.tup ds) := .inl t
  obtain ⟨a, xs, rfl, h1, h2⟩ := w.tup r.hs
  refine ⟨a, xs, rfl, by rw [hK]; exact h1, ?_, S, mu, env, cs, ds, r, h2, p⟩
  rw [h2.length, hl]
  exact mTgs_len ts ds env cs p
end
end EL
namespace EL
open PySem PySem.Spec L2

/-! ### what is walked -/
/-- an iterator tells ds, one by one, while what is frozen stands and the locks hold -/
structure ItOk (g : Glob) (lk : List (Addr × Obj × HO)) (J : It) (S : Hp) (mu : List Addr) (ds : List D) : Prop where
  len : ds.length ≤ sizeLine
  go : ∀ S1 mu1 H (i : Nat), Mo S mu S1 mu1 → (∀ b u, S1 b = some u → Rd H b u) → (∀ p ∈ lk, H p.1 = some (.frz p.2.1 p.2.2)) → i < ds.length → J.go i H
  stop : ∀ S1 mu1 H (i : Nat), Mo S mu S1 mu1 → (∀ b u, S1 b = some u → Rd H b u) → (∀ p ∈ lk, H p.1 = some (.frz p.2.1 p.2.2)) → ds.length ≤ i → J.stop i H
  yld : ∀ S1 mu1 H (i : Nat) x H' d, Mo S mu S1 mu1 → (∀ b u, S1 b = some u → Rd H b u) → (∀ p ∈ lk, H p.1 = some (.frz p.2.1 p.2.2)) → ds[i]? = some d → J.yld i H x H' → ∃ S2, Up H S1 H' S2 ∧ Rp g S2 mu1 x d
def rdI (g : Glob) (F : Ent) (W : WX) (m : M (List D)) : TI := fun σ H R => ∃ S mu env cs, Rel g F σ H S mu env cs ∧
  Post (m env cs) (fun ds env' cs' => ∀ J H' S' mu', Gr H S mu H' S' mu' → Rel g F σ H' S' mu' env' cs' → ItOk g F.lk J S' mu' ds → R J H') (ExW g F W σ)
theorem PI.imp {X : Cx} {tg e : Expr} {t t' : TI} (h : PI X tg e t) (i : ∀ σ H Q, t' σ H Q → t σ H Q) : PI X tg e t' := ⟨fun pins s σ H Q I q => h.run pins s σ H Q I (i σ H Q q)⟩
/-- by values -/
def ItR (X : Cx) (tg : Expr) (p : V → Hp → (It → Hp → Prop) → Prop) : Prop :=
  ∀ (pins : List (Addr × Obj)) (s : Shared) (σ : SS) (H : Hp) (x : V) (v : Value) (R : It → Hp → Prop), L2.Inv X pins σ H s → RelV x v → p x H R → wpAny (model X.prog X.w) X.A (pyIter v) (PIE X pins σ tg R) X.xe s
theorem pi_of {X : Cx} {tg e : Expr} {te : TE} {p : V → Hp → (It → Hp → Prop) → Prop} (he : PE X e te) (h : ItR X tg p) : PI X tg e (fun σ H R => te σ H fun x H1 => p x H1 R) :=
  ⟨fun pins s σ H R I q => thn (he.run pins s σ H _ I q) fun v s1 ⟨x, H1, I1, r1, q1⟩ => h pins s1 σ H1 x v R I1 r1 q1⟩
theorem ItR.or {X : Cx} {tg : Expr} {p p'} (h : ItR X tg p) (h' : ItR X tg p') : ItR X tg (fun x H R => p x H R ∨ p' x H R) := fun pins s σ H x v R I r q => by
  rcases q with q | q
  · exact h pins s σ H x v R I r q
  · exact h' pins s σ H x v R I r q
section
variable {X : Cx} {tg : Expr}
def pLst (K : PySem.W.Frag) : V → Hp → (It → Hp → Prop) → Prop := fun x H R => ∃ a xs, x = .ref a ∧ SqL K H a xs ∧ (xs.length ≤ sizeLine → R (Itl K a) H)
def pTup (K : PySem.W.Frag) : V → Hp → (It → Hp → Prop) → Prop := fun x H R => ∃ a xs, x = .ref a ∧ SqT K H a xs ∧ (xs.length ≤ sizeLine → R (Itt K a) H)
theorem it_lst : ItR X tg (pLst X.K) := by
  intro pins s σ H x v R I r q
  obtain ⟨a, xs, e, hq, q⟩ := q
  subst e
  cases r
  obtain ⟨its, rv, p, hz⟩ := I.list hq
  refine wpAny_pyIter_list p.isList ⟨s.heap.objs.size, [s.heap.objs.size], _, _, H, rfl, I.kept (t' := s.toks) fun b o e => Heap.get?_push_of_some _ e, turn_list a _, ⟨_, Heap.get?_push_size _ rfl, rfl, rfl⟩, fun b hb => ?_, q hz⟩
  obtain rfl : b = s.heap.objs.size := by simpa using hb
  exact I.fpOk (Nat.le_refl _) (I.hok.fresh (Nat.le_refl _))
theorem it_tup : ItR X tg (pTup X.K) := by
  intro pins s σ H x v R I r q
  obtain ⟨a, xs, e, hq, q⟩ := q
  subst e
  cases r
  obtain ⟨its, rv, p, hz⟩ := I.tuple hq
  refine wpAny_pyIter_tuple (show s.heap.IsTuple a its.toArray from p) ⟨s.heap.objs.size, [s.heap.objs.size], _, _, H, rfl, I.kept (t' := s.toks) fun b o e => Heap.get?_push_of_some _ e, turn_tuple a _, ⟨_, Heap.get?_push_size _ rfl, rfl, rfl⟩, fun b hb => ?_, q hz⟩
  obtain rfl : b = s.heap.objs.size := by simpa using hb
  exact I.fpOk (Nat.le_refl _) (I.hok.fresh (Nat.le_refl _))
def pStr : V → Hp → (It → Hp → Prop) → Prop := fun v H R => ∃ x, v = .str x ∧ R (Its x) H
theorem it_str : ItR X tg pStr := by
  intro pins s σ H y v R I r1 q
  obtain ⟨x, ex, q⟩ := q
  subst ex
  obtain ⟨t, rfl⟩ := r1
  cases ha : x.cps.all (· < 128)
  · exact wpAny_pyIter_wide ha (pi_one (tk := s.toks) I _ (turn_str _ x t "str_iterator" (.inr rfl)) ⟨_, Heap.get?_push_size _ rfl, rfl, rfl⟩ q)
  · exact wpAny_pyIter_ascii ha (pi_one (tk := s.toks) I _ (turn_str _ x t "str_ascii_iterator" (.inl rfl)) ⟨_, Heap.get?_push_size _ rfl, rfl, rfl⟩ q)
def pSeq (K : PySem.W.Frag) : V → Hp → (It → Hp → Prop) → Prop := fun x H R => pLst K x H R ∨ pTup K x H R ∨ pStr x H R
theorem it_seq : ItR X tg (pSeq X.K) := it_lst.or (it_tup.or it_str)
end
section
variable {g : Glob} {F : Ent} {W : WX} {X : Cx} {tg e : Expr}
theorem itok_lst {lk} {S : Hp} {mu} {a : Addr} {vs ds} (h1 : S a = some (.lst vs) ∨ KL g.K a vs) (h2 : RpL g S mu vs ds) (hz : vs.length ≤ sizeLine) : ItOk g lk (Itl g.K a) S mu ds := by
  have sq : ∀ S1 mu1 H, Mo S mu S1 mu1 → (∀ b u, S1 b = some u → Rd H b u) → SqL g.K H a vs := fun S1 mu1 H m h => by
    rcases h1 with h1 | h1
    · exact .inl (h _ _ (m.s _ _ h1))
    · exact .inr h1
  refine ⟨by rw [← h2.length]; exact hz, fun S1 mu1 H i m h _ hi => ?_, fun S1 mu1 H i m h _ hi => ⟨vs, sq S1 mu1 H m h, by rw [h2.length]; exact hi⟩, fun S1 mu1 H i x H' d m h _ hd y => ?_⟩
  · obtain ⟨v, hv, _⟩ := h2.get (d := ds[i]) (List.getElem?_eq_getElem hi)
    exact ⟨vs, v, sq S1 mu1 H m h, hv⟩
  · obtain ⟨e, y⟩ := y
    subst e
    obtain ⟨v, hv, rv⟩ := h2.get hd
    have := y vs (sq S1 mu1 H' m h)
    rw [hv] at this
    cases this
    exact ⟨S1, .refl, rv.mono m⟩
theorem itok_tup {lk} {S : Hp} {mu} {a : Addr} {vs ds} (h1 : S a = some (.tup vs) ∨ KT g.K a vs) (h2 : RpL g S mu vs ds) (hz : vs.length ≤ sizeLine) : ItOk g lk (Itt g.K a) S mu ds := by
  have sq : ∀ S1 mu1 H, Mo S mu S1 mu1 → (∀ b u, S1 b = some u → Rd H b u) → SqT g.K H a vs := fun S1 mu1 H m h => by
    rcases h1 with h1 | h1
    · exact .inl (h _ _ (m.s _ _ h1))
    · exact .inr h1
  refine ⟨by rw [← h2.length]; exact hz, fun S1 mu1 H i m h _ hi => ?_, fun S1 mu1 H i m h _ hi => ⟨vs, sq S1 mu1 H m h, by rw [h2.length]; exact hi⟩, fun S1 mu1 H i x H' d m h _ hd y => ?_⟩
  · obtain ⟨v, hv, _⟩ := h2.get (d := ds[i]) (List.getElem?_eq_getElem hi)
    exact ⟨vs, v, sq S1 mu1 H m h, hv⟩
  · obtain ⟨e, y⟩ := y
    subst e
    obtain ⟨v, hv, rv⟩ := h2.get hd
    have := y vs (sq S1 mu1 H' m h)
    rw [hv] at this
    cases this
    exact ⟨S1, .refl, rv.mono m⟩
/-- a text's signs -/
def signs (x : Str) : List D := x.cps.toList.map fun c => .str ⟨#[c]⟩
theorem itok_str {lk} {S : Hp} {mu} {x : Str} (hz : x.length ≤ sizeLine) : ItOk g lk (Its x) S mu (signs x) := by
  have hl : (signs x).length = x.cps.size := by simp [signs]
  refine ⟨by rw [hl]; exact hz, fun S1 mu1 H i m h _ hi => by rw [hl] at hi; exact hi, fun S1 mu1 H i m h _ hi => by rw [hl] at hi; exact hi, fun S1 mu1 H i v H' d m h _ hd y => ?_⟩
  obtain ⟨e, c, hc, ev⟩ := y
  subst e ev
  have : d = .str ⟨#[c]⟩ := by
    unfold signs at hd
    rw [List.getElem?_map, Array.getElem?_toList, hc] at hd
    exact (Option.some.inj hd).symm
  subst this
  exact ⟨S1, .refl, .str _⟩
/-- the items of data that is walked -/
def itemsD : D → Option (List D)
  | .lst ds => some ds
  | .tup ds => some ds
  | .str x => if x.length ≤ sizeLine then some (signs x) else none
  | _ => none
def mItems (m : M D) : M (List D) := m.bind fun d => M.opt (itemsD d)
theorem sISeq {m : M D} (hK : X.K = g.K) (he : PE X e (rdZ g F W m)) : PI X tg e (rdI g F W (mItems m)) :=
  PI.imp (pi_of he it_seq) fun σ H R ⟨S, mu, env, cs, r, q⟩ => by
    unfold mItems at q
    rw [Post.bind] at q
    refine ⟨S, mu, env, cs, r, q.on fun d env' cs' p v H' S' mu' gr r' t => ?_⟩
    cases hd : itemsD d with
    | none => rw [hd] at p; exact p.elim
    | some ds =>
      rw [hd] at p
      have p : ∀ J H2 S2 mu2, Gr H S mu H2 S2 mu2 → Rel g F σ H2 S2 mu2 env' cs' → ItOk g F.lk J S2 mu2 ds → R J H2 := p
      cases d <;> first | (simp [itemsD] at hd; done) | skip
      · simp only [itemsD] at hd
        split at hd
        · rename_i hz
          cases hd
          cases t
          exact .inr (.inr ⟨_, rfl, p _ H' S' mu' gr r' (itok_str hz)⟩)
        · cases hd
      · cases hd
        obtain ⟨a, vs, ev, h1, h2⟩ := Vw.lst r'.hs (.inl t)
        subst ev
        cases t with
        | lst h3 h4 =>
          have e : _ = vs.length := h4.length.trans h2.length.symm
          exact .inl ⟨a, vs, rfl, by rw [hK]; exact h1, fun hz => by rw [hK]; exact p _ H' S' mu' gr r' (itok_lst h3 h4 (e ▸ hz))⟩
      · cases hd
        obtain ⟨a, vs, ev, h1, h2⟩ := Vw.tup r'.hs (.inl t)
        subst ev
        cases t with
        | tup h3 h4 =>
          have e : _ = vs.length := h4.length.trans h2.length.symm
          exact .inr (.inl ⟨a, vs, rfl, by rw [hK]; exact h1, fun hz => by rw [hK]; exact p _ H' S' mu' gr r' (itok_tup h3 h4 (e ▸ hz))⟩)

/-- a later start -/
abbrev Ent.at_ (F : Ent) (S : Hp) (mu : List Addr) : Ent := ⟨F.H, S, mu, F.lk, F.rs⟩
theorem Rel.to {σ : SS} {H H1 S S1 : Hp} {mu mu1 : List Addr} {env : Env} {cs : Cells} (f : FI F H1 S1 mu1) (m : Mo S1 mu1 S mu) (r : Rel g F σ H S mu env cs) : Rel g (F.at_ S1 mu1) σ H S mu env cs := by
  have hin : ∀ b, b ∈ F.mu → b ∈ mu1 := fun b hb => by
    obtain ⟨i, hi⟩ := List.mem_iff_getElem?.mp hb
    exact List.mem_iff_getElem?.mpr ⟨i, f.mo.m i b hi⟩
  exact ⟨r.hs, ⟨m, fun b o h hm => r.fi.h b o h fun z => hm (hin b z), fun b hb => (r.fi.n b hb).imp (hin b) id, fun b u e => (r.fi.t b u e).imp (f.mo.s b u) id, r.fi.l, r.fi.r⟩, r.len, r.fz, r.ow, r.sep⟩
theorem Rel.back {σ : SS} {H H1 S S1 : Hp} {mu mu1 : List Addr} {env : Env} {cs : Cells} (f : FI F H1 S1 mu1) (r : Rel g (F.at_ S1 mu1) σ H S mu env cs) : Rel g F σ H S mu env cs := by
  refine ⟨r.hs, ⟨f.mo.trans r.fi.mo, fun b o h hm => r.fi.h b o h fun z => ?_, fun b hb => ?_, fun b u e => ?_, r.fi.l, r.fi.r⟩, r.len, r.fz, r.ow, r.sep⟩
  · rcases f.n b z with q | q
    · exact hm q
    · rw [h] at q; cases q
  · rcases r.fi.n b hb with z | z
    · exact f.n b z
    · exact .inr z
  · rcases r.fi.t b u e with z | z
    · exact f.t b u z
    · exact .inr z
theorem Res.to {σ : SS} {env : Env} {H S S1 : Hp} {mu mu1 : List Addr} {v : V} {d : D} {b : Bool} : Res g (F.at_ S1 mu1) σ env H S mu v d b = Res g F σ env H S mu v d b := by cases b <;> rfl
theorem ExS.to {k fs env cs} {H1 S1 : Hp} {mu1 : List Addr} (f : FI F H1 S1 mu1) (h : ExS g F W k fs env cs) : ExS g (F.at_ S1 mu1) W k fs env cs := fun σ dx H S mu r x => h σ dx H S mu (r.back f) x
/-! ### for -/
def forM (body : D → M Fl) : List D → M Fl
  | [] => M.pure .nx
  | d :: ds => (body d).bind fun fl => match fl with
    | .nx => forM body ds
    | .ct => forM body ds
    | .bk => M.pure .nx
    | .rt x fr => M.pure (.rt x fr)
def mFor (mi : M (List D)) (tg : Tg) (mb : M Fl) : M Fl := mi.bind fun ds => forM (fun d => (mTg tg d).bind fun _ => mb) ds
theorem Post.exF {α : Type} {m : R α} {K : α → Env → Cells → Prop} {KX : Nat → List (Str × D) → Env → Cells → Prop} (h : Post m K KX) (hn : ∀ k fs e c, m ≠ .exc k fs e c) : Post m K (fun _ _ _ _ => False) := by
  cases m with
  | ok => exact h
  | exc k fs e c => exact (hn k fs e c rfl).elim
  | stuck => exact h
mutual
theorem mTg_noexc : ∀ (t : Tg) (d : D) (env : Env) (cs : Cells) k fs e c, mTg t d env cs ≠ .exc k fs e c
  | .name i, d, env, cs, k, fs, e, c => by
    show (if i < env.length then _ else _) ≠ _
    split <;> (intro h; cases h)
  | .tup ts, d, env, cs, k, fs, e, c => by
    cases d <;> first | (intro h; cases h; done) | skip
    exact mTgs_noexc ts _ env cs k fs e c
theorem mTgs_noexc : ∀ (ts : List Tg) (ds : List D) (env : Env) (cs : Cells) k fs e c, mTgs ts ds env cs ≠ .exc k fs e c
  | [], [], _, _, _, _, _, _ => by intro h; cases h
  | [], _ :: _, _, _, _, _, _, _ => by intro h; cases h
  | _ :: _, [], _, _, _, _, _, _ => by intro h; cases h
  | t :: ts, d :: ds, env, cs, k, fs, e, c => by
    show (mTg t d).bind (fun _ => mTgs ts ds) env cs ≠ _
    unfold M.bind
    cases h : mTg t d env cs with
    | ok a e' c' => exact mTgs_noexc ts ds e' c' k fs e c
    | exc k' fs' e' c' => exact absurd h (mTg_noexc t d env cs k' fs' e' c')
    | stuck => intro h; cases h
end
theorem sFor {tge iter : Expr} {body : List Stmt} {pos : Pos} {mi : M (List D)} {tg : Tg} {mb : M Fl} {vs : List Nat} (hp : PassesOwn (model X.prog X.w) X.A X.env X.xe) (hc : X.calm = true) (hi : PI X tge iter (rdI g F W mi)) (hg : ∀ F, PG X tge (rdG g F W vs (mTg tg)))
    (hb : ∀ F, PSs X body (rdS g F W mb)) (hs : ∀ x, foldedSetIterable iter X.env x = pure x) : PS X (.For tge iter body [] pos) (rdS g F W (mFor mi tg mb)) :=
  ⟨fun pins s σ H E I ⟨S, mu, env, cs, r, q⟩ => by
    unfold mFor at q
    rw [PoS.bind] at q
    refine (ps_for (tb := fun E' σ' H' => ∃ F', rdS g F' W mb E' σ' H') (g := fun v σ' H' Q => ∃ F', rdG g F' W vs (mTg tg) v σ' H' Q) hp hc hi ⟨fun pins s σ H v u Q I r ⟨F', q⟩ => (hg F').run pins s σ H v u Q I r q⟩ ⟨fun pins s σ H E I ⟨F', q⟩ => (hb F').run pins s σ H E I q⟩ hs).run pins s σ H E I ?_
    refine ⟨S, mu, env, cs, r, Post.mono q (fun ds env1 cs1 p J H1 S1 mu1 gr r1 it => ?_) (fun k fs e c z => z σ)⟩
    refine ⟨fun i m σ' H' => m = ds.length - i ∧ i ≤ ds.length ∧ ∃ S' mu' env' cs', Mo S1 mu1 S' mu' ∧ Rel g F σ' H' S' mu' env' cs' ∧ PoS g F W E (forM (fun d => (mTg tg d).bind fun _ => mb) (ds.drop i)) env' cs',
      ⟨ds.length, by omega, Nat.zero_le _, S1, mu1, env1, cs1, .refl, r1, by rw [List.drop_zero]; exact p⟩, ?_⟩
    rintro i m σ' H' ⟨rfl, hi, S', mu', env', cs', mo, r', p'⟩
    by_cases hlt : i < ds.length
    · refine .inr ⟨it.go S' mu' H' i mo r'.hs.sub r'.fi.l hlt, fun σ2 H2 => i + 1 ≤ ds.length ∧ ∃ S2 mu2 env2 cs2, Mo S1 mu1 S2 mu2 ∧ Rel g F σ2 H2 S2 mu2 env2 cs2 ∧ PoS g F W E (forM (fun d => (mTg tg d).bind fun _ => mb) (ds.drop (i + 1))) env2 cs2,
        fun σ2 H2 h => ⟨ds.length - (i + 1), by omega, rfl, h⟩, fun x H2 y => ?_⟩
      have hd : ds.drop i = ds[i] :: ds.drop (i + 1) := by rw [List.drop_eq_getElem_cons hlt]
      rw [hd] at p'
      have p' : PoS g F W E (((mTg tg ds[i]).bind fun _ => mb).bind _) env' cs' := p'
      obtain ⟨S2, up, rx⟩ := it.yld S' mu' H' i x H2 ds[i] mo r'.hs.sub r'.fi.l (List.getElem?_eq_getElem hlt) y
      rw [PoS.bind, Post.bind] at p'
      have r2 := up.rel r'
      have f2 := r2.fi
      refine ⟨F, S2, mu', env', cs', ds[i], r2, rx, Post.on (Post.exF p' fun k fs e c => mTg_noexc tg ds[i] env' cs' k fs e c) fun _ env3 cs3 p3 σ3 on3 r3 => ⟨F.at_ S2 mu', S2, mu', env3, cs3, r3.to f2 .refl, ?_⟩⟩
      refine Post.mono p3 (fun fl e c k => ?_) fun k fs e c h => h.to f2
      have again : PoS g F W E (forM (fun d => (mTg tg d).bind fun _ => mb) (ds.drop (i + 1))) e c → ∀ σ4 H4 S4 mu4, Rel g (F.at_ S2 mu') σ4 H4 S4 mu4 e c →
          i + 1 ≤ ds.length ∧ ∃ S2 mu2 env2 cs2, Mo S1 mu1 S2 mu2 ∧ Rel g F σ4 H4 S2 mu2 env2 cs2 ∧ PoS g F W E (forM (fun d => (mTg tg d).bind fun _ => mb) (ds.drop (i + 1))) env2 cs2 :=
        fun p4 σ4 H4 S4 mu4 r4 => ⟨hlt, S4, mu4, e, c, (mo.trans up.mo).trans r4.fi.mo, r4.back f2, p4⟩
      cases fl with
      | nx => exact again k
      | ct => exact again k
      | bk => exact fun σ4 H4 S4 mu4 r4 => k σ4 H4 S4 mu4 (r4.back f2)
      | rt d fr => exact fun v σ4 H4 S4 mu4 r4 t => k v σ4 H4 S4 mu4 (r4.back f2) (by rw [← Res.to (F := F)]; exact t)
    · have e : i = ds.length := by omega
      subst e
      refine .inl ⟨it.stop S' mu' H' _ mo r'.hs.sub r'.fi.l (Nat.le_refl _), ?_⟩
      rw [List.drop_length] at p'
      exact p' σ' H' S' mu' r'⟩

/-! ### while -/
def whM (mt : M Bool) (mb : M Fl) : Nat → M Fl
  | 0 => M.stuck
  | n + 1 => mt.bind fun b => if b then mb.bind fun fl => (match fl with
    | .nx => whM mt mb n
    | .ct => whM mt mb n
    | .bk => M.pure .nx
    | .rt x fr => M.pure (.rt x fr)) else M.pure .nx
theorem sWhile {c : Expr} {body : List Stmt} {pos : Pos} {mt : M Bool} {mb : M Fl} {n : Nat} (hp : PassesOwn (model X.prog X.w) X.A X.env X.xe) (hc : PT X c (rdT g F W mt)) (hb : PSs X body (rdS g F W mb)) :
    PS X (.While c body [] pos) (rdS g F W (whM mt mb n)) := PS.imp (ps_while hp hc hb) fun E σ H ⟨S, mu, env, cs, r, q⟩ => by
  refine ⟨fun m σ' H' => ∃ S' mu' env' cs', Rel g F σ' H' S' mu' env' cs' ∧ PoS g F W E (whM mt mb m) env' cs', ⟨n, S, mu, env, cs, r, q⟩, ?_⟩
  rintro m σ' H' ⟨S', mu', env', cs', r', p⟩
  cases m with
  | zero => exact p.elim
  | succ m =>
    unfold whM at p
    refine rdS.ex ⟨S', mu', env', cs', r', p⟩ fun b env2 cs2 v H2 S2 mu2 r2 t p2 => ?_
    subst t
    cases v with
    | false =>
      rw [if_neg (by decide)]
      rw [if_neg (by decide)] at p2
      exact p2 σ' H2 S2 mu2 r2
    | true =>
      rw [if_pos rfl]
      rw [if_pos rfl] at p2
      refine ⟨fun σ3 H3 => ∃ S' mu' env' cs', Rel g F σ3 H3 S' mu' env' cs' ∧ PoS g F W E (whM mt mb m) env' cs', fun σ3 H3 h => ⟨m, Nat.lt_succ_self m, h⟩, S2, mu2, env2, cs2, r2, ?_⟩
      rw [PoS.bind] at p2
      refine Post.on p2 fun fl e c k => ?_
      cases fl with
      | nx => exact fun σ4 H4 S4 mu4 r4 => ⟨S4, mu4, e, c, r4, k⟩
      | ct => exact fun σ4 H4 S4 mu4 r4 => ⟨S4, mu4, e, c, r4, k⟩
      | bk => exact k
      | rt d fr => exact k

/-! ### an address set apart -/
abbrev Ent.res (F : Ent) (D : Addr) : Ent := ⟨F.H, F.S, F.mu, F.lk, D :: F.rs⟩
theorem Rel.res {σ : SS} {H S : Hp} {mu : List Addr} {env : Env} {cs : Cells} {D : Addr} (r : Rel g F σ H S mu env cs) (h1 : S D = none) (h2 : D ∉ mu) (h3 : F.H D = none) (h4 : ∃ o, H D = some o) (h5 : ∀ (i : Nat) d, env[i]? = some (.ow d) → σ[i]? ≠ some (some (.ref D))) :
    Rel g (F.res D) σ H S mu env cs := by
  refine ⟨r.hs, ⟨r.fi.mo, r.fi.h, r.fi.n, r.fi.t, r.fi.l, fun a ha => ?_⟩, r.len, r.fz, fun i d e => ?_, r.sep⟩
  · rcases List.mem_cons.mp ha with rfl | ha
    · exact ⟨h1, h2, h3, h4⟩
    · exact r.fi.r a ha
  · obtain ⟨a, k1, k2, k3, ⟨k4, k5⟩, k6⟩ := r.ow i d e
    refine ⟨a, k1, k2, k3, ⟨k4, fun z => ?_⟩, k6⟩
    rcases List.mem_cons.mp z with z | z
    · exact h5 i d e (z ▸ k1)
    · exact k5 z
theorem Rel.unres {σ : SS} {H S : Hp} {mu : List Addr} {env : Env} {cs : Cells} {D : Addr} (r : Rel g (F.res D) σ H S mu env cs) : Rel g F σ H S mu env cs :=
  ⟨r.hs, ⟨r.fi.mo, r.fi.h, r.fi.n, r.fi.t, r.fi.l, fun a ha => r.fi.r a (List.mem_cons_of_mem _ ha)⟩, r.len, r.fz, fun i d e => by
    obtain ⟨a, k1, k2, k3, ⟨k4, k5⟩, k6⟩ := r.ow i d e
    exact ⟨a, k1, k2, k3, ⟨k4, fun z => k5 (List.mem_cons_of_mem _ z)⟩, k6⟩, r.sep⟩
/-- it may change -/
theorem Rel.upd {σ : SS} {H S : Hp} {mu : List Addr} {env : Env} {cs : Cells} {D : Addr} {o : HO} (r : Rel g F σ H S mu env cs) (hD : D ∈ F.rs) (hn : ∀ ob u, H D ≠ some (.frz ob u)) : Rel g F σ (L2.upd H D o) S mu env cs := by
  obtain ⟨h1, h2, h3, h4⟩ := r.fi.r D hD
  refine ⟨⟨fun b u e => ?_, r.hs.len, r.hs.nd, fun i b c e1 e2 => ?_⟩, ⟨r.fi.mo, fun b x e hm => ?_, r.fi.n, r.fi.t, fun p hp => ?_, fun a ha => ?_⟩, r.len, r.fz, fun i d e => ?_, r.sep⟩
  · have hb : b ≠ D := ne_of_none e h1
    exact rdKeep (r.hs.sub b u e) fun x hx => by rw [upd_ne hb]; exact hx
  · obtain ⟨k1, k2⟩ := r.hs.cell i b c e1 e2
    have hb : b ≠ D := fun h => h2 (h ▸ List.mem_iff_getElem?.mpr ⟨i, e1⟩)
    exact ⟨k1, k2.keep .refl fun x hx => by rw [upd_ne hb]; exact hx⟩
  · rw [upd_ne (ne_of_none e h3)]
    exact r.fi.h b x e hm
  · have hb : p.1 ≠ D := fun h => hn _ _ (h ▸ r.fi.l p hp)
    rw [upd_ne hb]
    exact r.fi.l p hp
  · obtain ⟨k1, k2, k3, x, k4⟩ := r.fi.r a ha
    refine ⟨k1, k2, k3, ?_⟩
    by_cases hb : a = D
    · subst hb; exact ⟨_, upd_same⟩
    · exact ⟨x, by rw [upd_ne hb]; exact k4⟩
  · obtain ⟨a, k1, k2, k3, ⟨k4, k5⟩, k6⟩ := r.ow i d e
    have hb : a ≠ D := fun h => k5 (h ▸ hD)
    exact ⟨a, k1, k2, k3, ⟨k4, k5⟩, k6.keep .refl fun x hx => by rw [upd_ne hb]; exact hx⟩

/-! ### a block's own names -/
@[simp] def wipeE (env : Env) : List Nat → Env
  | [] => env
  | v :: vs => (wipeE env vs).set v .no
@[simp] def fzOf : Option Slot → Slot
  | some (.fz d) => .fz d
  | _ => .no
/-- the slots vs as they were in env0 -/
@[simp] def restE (env0 env : Env) : List Nat → Env
  | [] => env
  | v :: vs => (restE env0 env vs).set v (fzOf env0[v]?)
theorem wipeE_len {env : Env} : ∀ {vs : List Nat}, (wipeE env vs).length = env.length
  | [] => rfl
  | v :: vs => by unfold wipeE; rw [List.length_set, wipeE_len]
theorem restE_len {env0 env : Env} : ∀ {vs : List Nat}, (restE env0 env vs).length = env.length
  | [] => rfl
  | v :: vs => by unfold restE; rw [List.length_set, restE_len]
theorem wipeE_at {env : Env} {s : Slot} : ∀ {vs : List Nat} {j : Nat}, (wipeE env vs)[j]? = some s → s = .no ∨ (j ∉ vs ∧ env[j]? = some s)
  | [], j, e => .inr ⟨by simp, e⟩
  | v :: vs, j, e => by
    unfold wipeE at e
    by_cases hj : v = j
    · subst hj
      by_cases hl : v < (wipeE env vs).length
      · rw [List.getElem?_set_self hl] at e
        exact .inl (Option.some.inj e).symm
      · rw [List.getElem?_eq_none (by rw [List.length_set]; omega)] at e; cases e
    · rw [List.getElem?_set_ne hj] at e
      rcases wipeE_at e with z | ⟨z1, z2⟩
      · exact .inl z
      · exact .inr ⟨by simp only [List.mem_cons, not_or]; exact ⟨fun h => hj h.symm, z1⟩, z2⟩
theorem restE_at {env0 env : Env} {s : Slot} : ∀ {vs : List Nat} {j : Nat}, (restE env0 env vs)[j]? = some s → (j ∈ vs ∧ s = fzOf env0[j]?) ∨ (j ∉ vs ∧ env[j]? = some s)
  | [], j, e => .inr ⟨by simp, e⟩
  | v :: vs, j, e => by
    unfold restE at e
    by_cases hj : v = j
    · subst hj
      by_cases hl : v < (restE env0 env vs).length
      · rw [List.getElem?_set_self hl] at e
        exact .inl ⟨List.mem_cons_self, (Option.some.inj e).symm⟩
      · rw [List.getElem?_eq_none (by rw [List.length_set]; omega)] at e; cases e
    · rw [List.getElem?_set_ne hj] at e
      rcases restE_at e with ⟨z1, z2⟩ | ⟨z1, z2⟩
      · exact .inl ⟨List.mem_cons_of_mem _ z1, z2⟩
      · exact .inr ⟨by simp only [List.mem_cons, not_or]; exact ⟨fun h => hj h.symm, z1⟩, z2⟩
theorem Rel.wipe {σ : SS} {H S : Hp} {mu : List Addr} {env : Env} {cs : Cells} {vs : List Nat} (r : Rel g F σ H S mu env cs) : Rel g F (wipe σ vs) H S mu (wipeE env vs) cs := by
  have at_ : ∀ (j : Nat), j ∉ vs → (L2.wipe σ vs)[j]? = σ[j]? := fun j hj => by
    rw [wipe_at, if_neg fun h => hj h.1]
  refine ⟨r.hs, r.fi, by rw [wipeE_len, wipe_length]; exact r.len, fun i d e => ?_, fun i d e => ?_, fun i j d d' a e1 e2 h1 h2 => ?_⟩
  · rcases wipeE_at e with z | ⟨z1, z2⟩
    · cases z
    · rw [at_ i z1]; exact r.fz i d z2
  · rcases wipeE_at e with z | ⟨z1, z2⟩
    · cases z
    · rw [at_ i z1]; exact r.ow i d z2
  · rcases wipeE_at e1 with z | ⟨z1, z2⟩
    · cases z
    · rcases wipeE_at e2 with y | ⟨y1, y2⟩
      · cases y
      · rw [at_ i z1] at h1
        rw [at_ j y1] at h2
        exact r.sep i j d d' a z2 y2 h1 h2
/-- out of the block -/
theorem Rel.rest {σ : SS} {H H0 S S0 : Hp} {mu mu0 : List Addr} {env env0 : Env} {cs cs0 : Cells} {vs : List Nat} (r0 : Rel g F σ H0 S0 mu0 env0 cs0) (m : Mo S0 mu0 S mu) (r : Rel g F (L2.wipe σ vs) H S mu env cs) : Rel g F σ H S mu (restE env0 env vs) cs := by
  have at_ : ∀ (j : Nat), j ∉ vs → (L2.wipe σ vs)[j]? = σ[j]? := fun j hj => by
    rw [wipe_at, if_neg fun h => hj h.1]
  have noow : ∀ (o : Option Slot) d, Slot.ow d ≠ fzOf o := fun o d h => by
    cases o with
    | none => cases h
    | some s => cases s <;> cases h
  refine ⟨r.hs, r.fi, by rw [restE_len, r.len, wipe_length], fun i d e => ?_, fun i d e => ?_, fun i j d d' a e1 e2 h1 h2 => ?_⟩
  · rcases restE_at e with ⟨z1, z2⟩ | ⟨z1, z2⟩
    · cases q : env0[i]? with
      | none => rw [q] at z2; cases z2
      | some s =>
        rw [q] at z2
        cases s with
        | no => cases z2
        | ow d' => cases z2
        | fz d' =>
          cases z2
          obtain ⟨v, k1, k2⟩ := r0.fz i d q
          exact ⟨v, k1, k2.mono m⟩
    · obtain ⟨v, k1, k2⟩ := r.fz i d z2
      rw [at_ i z1] at k1
      exact ⟨v, k1, k2⟩
  · rcases restE_at e with ⟨z1, z2⟩ | ⟨z1, z2⟩
    · exact (noow _ _ z2).elim
    · obtain ⟨v, k1, k2⟩ := r.ow i d z2
      rw [at_ i z1] at k1
      exact ⟨v, k1, k2⟩
  · rcases restE_at e1 with ⟨z1, z2⟩ | ⟨z1, z2⟩
    · exact (noow _ _ z2).elim
    · rcases restE_at e2 with ⟨y1, y2⟩ | ⟨y1, y2⟩
      · exact (noow _ _ y2).elim
      · rw [← at_ i z1] at h1
        rw [← at_ j y1] at h2
        exact r.sep i j d d' a z2 y2 h1 h2
end
end EL
namespace EL
open PySem PySem.Spec L2

/-! ### list comprehensions -/
def compM (turn : D → M (Option D)) : List D → M (List D)
  | [] => M.pure []
  | d :: ds => (turn d).bind fun o => (compM turn ds).bind fun xs => M.pure (o.toList ++ xs)
/-- the block's own names forgotten; nothing is raised out of it -/
def mWipe {α : Type} (vs : List Nat) (m : M α) : M α := fun env cs => match m env cs with
  | .ok a e c => .ok a (wipeE e vs) c
  | _ => .stuck
def turnM (vs : List Nat) (tg : Tg) (mt : M Bool) (me : M D) (d : D) : M (Option D) :=
  mWipe vs ((mTg tg d).bind fun _ => mt.bind fun b => if b then me.bind fun x => M.pure (some x) else M.pure none)
/-- in a block: its own names are its own -/
def mBlk {α : Type} (vs : List Nat) (m : M α) : M α := fun env cs => match m (wipeE env vs) cs with
  | .ok a e c => .ok a (restE env e vs) c
  | _ => .stuck
def mComp (mi : M (List D)) (vs : List Nat) (tg : Tg) (mt : M Bool) (me : M D) : M (D × Bool) :=
  mi.bind fun ds => (mBlk vs (compM (turnM vs tg mt me) ds)).bind fun xs => M.pure (.lst xs, true)
abbrev WF : WX := fun _ _ _ _ => False
abbrev KF : Nat → List (Str × D) → Env → Cells → Prop := fun _ _ _ _ => False
theorem post_wipe {α : Type} {vs : List Nat} {m : M α} {env : Env} {cs : Cells} {K : α → Env → Cells → Prop} {KX} (h : Post (mWipe vs m env cs) K KX) : Post (m env cs) (fun a e c => K a (wipeE e vs) c) KF := by
  unfold mWipe at h
  cases e : m env cs with
  | ok a e' c' => rw [e] at h; exact h
  | exc k fs e' c' => rw [e] at h; exact h.elim
  | stuck => rw [e] at h; exact h
theorem post_blk {α : Type} {vs : List Nat} {m : M α} {env : Env} {cs : Cells} {K : α → Env → Cells → Prop} {KX} (h : Post (mBlk vs m env cs) K KX) : Post (m (wipeE env vs) cs) (fun a e c => K a (restE env e vs) c) KF := by
  unfold mBlk at h
  cases e : m (wipeE env vs) cs with
  | ok a e' c' => rw [e] at h; exact h
  | exc k fs e' c' => rw [e] at h; exact h.elim
  | stuck => rw [e] at h; exact h
theorem Post.false {α : Type} {m : R α} {K : α → Env → Cells → Prop} (h : Post m K KF) (KX) : Post m K KX := h.mono (fun _ _ _ z => z) fun _ _ _ _ z => z.elim
section
variable {g : Glob} {F : Ent} {W : WX} {X : Cx}
theorem wipe_wipe {σ : SS} {vs : List Nat} : wipe (wipe σ vs) vs = wipe σ vs := by
  apply List.ext_getElem?
  intro j
  rw [wipe_at, wipe_at, wipe_length]
  by_cases h : j ∈ vs ∧ j < σ.length
  · rw [if_pos h, if_pos h]
  · rw [if_neg h, if_neg h]
theorem Gr.upd {H S mu H' S' mu'} {p : Addr} {o : HO} (gr : Gr H S mu H' S' mu') (hp : H p = none) : Gr H S mu (L2.upd H' p o) S' mu' := ⟨gr.mo, fun b x e hm => by
  rw [upd_ne (ne_of_none e hp)]; exact gr.h b x e hm, gr.n⟩
/-- what a comprehension's run has to end with -/
abbrev CEnd (g : Glob) (F' : Ent) (σ : SS) (H1 S1 : Hp) (mu1 : List Addr) (D0 : Addr) (Q : VK) (zs : List D) (e : Env) (c : Cells) : Prop :=
  ∀ H2 S2 mu2, Gr H1 S1 mu1 H2 S2 mu2 → Rel g F' σ H2 S2 mu2 e c → (∃ accV, H2 D0 = some (.lst accV) ∧ RpL g S2 mu2 accV zs) → Q (.ref D0) H2
theorem sComp {elt tge iter : Expr} {ifs : List Expr} {scope : Scope} {own : List (Str × Nat)} {pos : Pos} {mi : M (List D)} {tg : Tg} {mt : M Bool} {me : M D}
    (hc : X.calm = true) (hN : X.N.Nodup) (hi : PI X tge iter (rdI g F W mi)) (ok : BlkOk X.N X.env.scope scope own)
    (hg : ∀ F (s : Shared) (H : Hp) (C : Addr) (cl : List (Str × Addr)) (fp : List Addr), PG (X.blk s H scope (compEnvC scope cl C X.env) fp) tge (rdG g F WF (own.map (·.2)) (mTg tg)))
    (ht : ∀ F (s : Shared) (H : Hp) (C : Addr) (cl : List (Str × Addr)) (fp : List Addr), PTs (X.blk s H scope (compEnvC scope cl C X.env) fp) ifs (rdT g F WF mt))
    (he : ∀ F (s : Shared) (H : Hp) (C : Addr) (cl : List (Str × Addr)) (fp : List Addr), PE (X.blk s H scope (compEnvC scope cl C X.env) fp) elt (rdZ g F WF me)) (hs : ∀ x, foldedSetIterable iter X.env x = pure x) :
    (∀ σ H Q, rdE g F W (mComp mi (own.map (·.2)) tg mt me) σ H Q → tLc (rdI g F W mi) (fun v σ H Q => ∃ F', rdG g F' WF (own.map (·.2)) (mTg tg) v σ H Q) (fun σ H Q => ∃ F', rdT g F' WF mt σ H Q) (fun σ H Q => ∃ F', rdZ g F' WF me σ H Q) (own.map (·.2)) σ H Q) := by
  intro σ H Q ⟨S, mu, env, cs, r, q⟩
  generalize hv : own.map (·.2) = vs at *
  have turnLen : True := trivial
  unfold mComp at q
  rw [Post.bind] at q
  refine ⟨S, mu, env, cs, r, q.on fun ds env1 cs1 p J H1 S1 mu1 gr r1 it D0 hD => ?_⟩
  rw [Post.bind] at p
  have p := post_blk p
  obtain ⟨F', hF'⟩ : ∃ F' : Ent, F' = (F.at_ S1 mu1).res D0 := ⟨_, rfl⟩
  have hlk : F'.lk = F.lk := by rw [hF']
  have hrs : D0 ∈ F'.rs := by rw [hF']; exact List.mem_cons_self
  have f1 := r1.fi
  -- the end
  have fin : ∀ zs e c, (KOf g F σ H S mu (TRes g F σ) Q (.lst zs, true) (restE env1 e vs) c) → CEnd g F' (wipe σ vs) H1 S1 mu1 D0 Q zs e c := fun zs e c k H2 S2 mu2 gr2 r2 ⟨accV, h1, h2⟩ => by
    rw [hF'] at r2
    obtain ⟨a1, a2, a3, a4⟩ := r2.fi.r D0 List.mem_cons_self
    have r3 : Rel g F (wipe σ vs) H2 S2 mu2 e c := r2.unres.back f1
    have r4 := Rel.rest (vs := vs) r1 gr2.mo r3
    refine k _ H2 S2 mu2 (gr.trans gr2) r4 ⟨D0, rfl, a1, a2, ⟨a3, fun z => ?_⟩, ⟨accV, h1, h2⟩, fun i d' e1 e2 => ?_⟩
    · obtain ⟨_, _, _, o, ho⟩ := r1.fi.r D0 z
      rw [ho] at hD; cases hD
    · rcases restE_at e1 with ⟨z1, z2⟩ | ⟨z1, z2⟩
      · cases q2 : env1[i]? with
        | none => rw [q2] at z2; cases z2
        | some s => rw [q2] at z2; cases s <;> cases z2
      · obtain ⟨a, k1, k2, k3, ⟨k4, k5⟩, k6⟩ := r2.ow i d' z2
        rw [wipe_at, if_neg fun h => z1 h.1, e2] at k1
        cases k1
        exact k5 List.mem_cons_self
  have p0 : Post (compM (turnM vs tg mt me) ds (wipeE env1 vs) cs1) (fun zs e c => CEnd g F' (wipe σ vs) H1 S1 mu1 D0 Q zs e c) KF := p.on fun zs e c k => fin zs e c k
  clear p fin
  have rw0 : Rel g F' (wipe σ vs) (L2.upd H1 D0 (.lst [])) S1 mu1 (wipeE env1 vs) cs1 := by
    have u : Up H1 S1 (L2.upd H1 D0 (.lst [])) S1 := Up.new hD (r1.hs.sNone hD)
    have r2 := (u.rel r1).to (F := F) (H1 := H1) f1 .refl
    rw [hF']
    refine Rel.res r2.wipe (r1.hs.sNone hD) (r1.hs.notMu hD) (f1.fresh r1.hs hD) ⟨_, upd_same⟩ fun i d e1 e2 => ?_
    obtain ⟨a, k1, _, _, _, k6⟩ := (r1.wipe (vs := vs)).ow i d e1
    rw [e2] at k1
    cases k1
    obtain ⟨o, ho⟩ := k6.has
    rw [ho] at hD; cases hD
  refine ⟨fun i m H' => m = ds.length - i ∧ i ≤ ds.length ∧ ∃ S' mu' env' cs' acc, acc.length ≤ i ∧ Gr H1 S1 mu1 H' S' mu' ∧ Rel g F' (wipe σ vs) H' S' mu' env' cs' ∧ (∃ accV, H' D0 = some (.lst accV) ∧ RpL g S' mu' accV acc) ∧
      Post (compM (turnM vs tg mt me) (ds.drop i) env' cs') (fun xs e c => CEnd g F' (wipe σ vs) H1 S1 mu1 D0 Q (acc ++ xs) e c) KF,
    ⟨ds.length, by omega, Nat.zero_le _, S1, mu1, _, cs1, [], Nat.le_refl _, Gr.refl.upd hD, rw0, ⟨[], upd_same, .nil⟩, by rw [List.drop_zero]; exact p0.on fun xs e c k => by rw [List.nil_append]; exact k⟩, ?_⟩
  rintro i m H' ⟨rfl, hi', S', mu', env', cs', acc, hacc, gr', r', ⟨accV, ha1, ha2⟩, p'⟩
  by_cases hlt : i < ds.length
  · refine .inr ⟨it.go S' mu' H' i gr'.mo r'.hs.sub (hlk ▸ r'.fi.l) hlt, fun H2 => i + 1 ≤ ds.length ∧ ∃ S' mu' env' cs' acc, acc.length ≤ i + 1 ∧ Gr H1 S1 mu1 H2 S' mu' ∧ Rel g F' (wipe σ vs) H2 S' mu' env' cs' ∧ (∃ accV, H2 D0 = some (.lst accV) ∧ RpL g S' mu' accV acc) ∧
        Post (compM (turnM vs tg mt me) (ds.drop (i + 1)) env' cs') (fun xs e c => CEnd g F' (wipe σ vs) H1 S1 mu1 D0 Q (acc ++ xs) e c) KF,
      fun H2 h => ⟨ds.length - (i + 1), by omega, rfl, h⟩, fun x H2 y => ?_⟩
    have hd : ds.drop i = ds[i] :: ds.drop (i + 1) := by rw [List.drop_eq_getElem_cons hlt]
    rw [hd] at p'
    have p' : Post ((turnM vs tg mt me ds[i]).bind (fun o => (compM (turnM vs tg mt me) (ds.drop (i + 1))).bind fun xs => M.pure (o.toList ++ xs)) env' cs') _ KF := p'
    rw [Post.bind] at p'
    have p' := post_wipe p'
    rw [Post.bind] at p'
    obtain ⟨S2, up, rx⟩ := it.yld S' mu' H' i x H2 ds[i] gr'.mo r'.hs.sub (hlk ▸ r'.fi.l) (List.getElem?_eq_getElem hlt) y
    refine ⟨F', S2, mu', env', cs', ds[i], up.rel r', rx, p'.on fun _ env3 cs3 p3 σ3 on3 r3 => ⟨on3.wipe.trans wipe_wipe, F', S2, mu', env3, cs3, r3, ?_⟩⟩
    have gr2 : Gr H1 S1 mu1 H2 S2 mu' := gr'.trans up.gr
    have ha1' : H2 D0 = some (.lst accV) := up.h _ _ ha1
    have ha2' := ha2.mono up.mo
    rw [Post.bind] at p3
    refine (Post.false p3 _).on fun b env4 cs4 p4 v H4 S4 mu4 gr4 r4 t => ?_
    obtain rfl : v = b := t
    have ha4 : H4 D0 = some (.lst accV) := gr4.h _ _ ha1' (r3.fi.r D0 hrs).2.1
    have toW : ∀ {H S mu e c}, Rel g F' σ3 H S mu e c → Rel g F' (wipe σ vs) H S mu (wipeE e vs) c := fun r => by
      have := r.wipe (vs := vs)
      rw [on3.wipe, wipe_wipe] at this
      exact this
    cases v with
    | false =>
      rw [if_neg (by decide)]
      rw [if_neg (by decide)] at p4
      refine ⟨hlt, S4, mu4, _, cs4, acc, by omega, gr2.trans gr4, toW r4, ⟨accV, ha4, ha2'.mono gr4.mo⟩, ?_⟩
      have p4 : Post ((compM (turnM vs tg mt me) (ds.drop (i + 1))).bind (fun xs => M.pure ((none : Option D).toList ++ xs)) (wipeE env4 vs) cs4) _ KF := p4
      rw [Post.bind] at p4
      exact p4.on fun xs e c k => k
    | true =>
      rw [if_pos rfl]
      rw [if_pos rfl] at p4
      rw [Post.bind] at p4
      refine ⟨F', S4, mu4, env4, cs4, r4, (Post.false p4 _).on fun z env5 cs5 p5 w H5 S5 mu5 gr5 r5 rz => ?_⟩
      have ha5 : H5 D0 = some (.lst accV) := gr5.h _ _ ha4 (r4.fi.r D0 hrs).2.1
      have hl5 := ha2'.length
      have hz := it.len
      refine ⟨accV, ha5, by omega, hlt, S5, mu5, wipeE env5 vs, cs5, acc ++ [z], by rw [List.length_append]; simp; omega, ?_, ?_, ⟨accV ++ [w], upd_same, ((ha2'.mono gr4.mo).mono gr5.mo).append (.cons rz .nil)⟩, ?_⟩
      · exact ((gr2.trans gr4).trans gr5).upd hD
      · exact (toW r5).upd hrs fun ob u e => by rw [ha5] at e; cases e
      · have p5 : Post ((compM (turnM vs tg mt me) (ds.drop (i + 1))).bind (fun xs => M.pure ((some z).toList ++ xs)) (wipeE env5 vs) cs5) _ KF := p5
        rw [Post.bind] at p5
        exact p5.on fun xs e c k => by
          rw [List.append_assoc]
          exact k
  · have e : i = ds.length := by omega
    subst e
    refine .inl ⟨it.stop S' mu' H' _ gr'.mo r'.hs.sub (hlk ▸ r'.fi.l) (Nat.le_refl _), ?_⟩
    rw [List.drop_length] at p'
    have p' : CEnd g F' (wipe σ vs) H1 S1 mu1 D0 Q (acc ++ []) env' cs' := p'
    rw [List.append_nil] at p'
    exact p' H' S' mu' gr' r' ⟨accV, ha1, ha2⟩
end
end EL
namespace EL
open PySem PySem.Spec L2

section
variable {g : Glob} {F : Ent} {W : WX} {X : Cx}
theorem PTs.imp {es : List Expr} {t t' : TT} (h : PTs X es t) (i : ∀ σ H Q, t' σ H Q → t σ H Q) : PTs X es t' := ⟨fun pins s σ H Q I q => h.run pins s σ H Q I (i σ H Q q)⟩
theorem sTsNil : PTs X [] (rdT g F W (M.pure true)) := PTs.imp pts_nil fun σ H Q ⟨S, mu, env, cs, ra⟩ => ra.pure rfl
theorem sTsOne {c : Expr} {m : M Bool} (h : PT X c (rdT g F W m)) : PTs X [c] (rdT g F W m) := pts_one h
/-- a list comprehension -/
theorem sLC {elt tge iter : Expr} {ifs : List Expr} {scope : Scope} {own : List (Str × Nat)} {pos : Pos} {mi : M (List D)} {tg : Tg} {mt : M Bool} {me : M D}
    (hc : X.calm = true) (hN : X.N.Nodup) (hi : PI X tge iter (rdI g F W mi)) (ok : BlkOk X.N X.env.scope scope own)
    (hg : ∀ F (s : Shared) (H : Hp) (C : Addr) (cl : List (Str × Addr)) (fp : List Addr), PG (X.blk s H scope (compEnvC scope cl C X.env) fp) tge (rdG g F WF (own.map (·.2)) (mTg tg)))
    (ht : ∀ F (s : Shared) (H : Hp) (C : Addr) (cl : List (Str × Addr)) (fp : List Addr), PTs (X.blk s H scope (compEnvC scope cl C X.env) fp) ifs (rdT g F WF mt))
    (he : ∀ F (s : Shared) (H : Hp) (C : Addr) (cl : List (Str × Addr)) (fp : List Addr), PE (X.blk s H scope (compEnvC scope cl C X.env) fp) elt (rdZ g F WF me)) (hs : ∀ x, foldedSetIterable iter X.env x = pure x) :
    PE X (.ListComp elt [⟨tge, iter, ifs, 0⟩] scope pos) (rdE g F W (mComp mi (own.map (·.2)) tg mt me)) :=
  PE.imp (pe_lc (g := fun v σ H Q => ∃ F', rdG g F' WF (own.map (·.2)) (mTg tg) v σ H Q) (tt := fun σ H Q => ∃ F', rdT g F' WF mt σ H Q) (te := fun σ H Q => ∃ F', rdZ g F' WF me σ H Q) hc hN hi ok
    (fun s H C cl fp => ⟨fun pins s σ H v u Q I r ⟨F', q⟩ => (hg F' _ _ C cl fp).run pins s σ H v u Q I r q⟩) (fun s H C cl fp => ⟨fun pins s σ H Q I ⟨F', q⟩ => (ht F' _ _ C cl fp).run pins s σ H Q I q⟩)
    (fun s H C cl fp => ⟨fun pins s σ H Q I ⟨F', q⟩ => (he F' _ _ C cl fp).run pins s σ H Q I q⟩) hs) (sComp (pos := pos) hc hN hi ok hg ht he hs)
/-- .. given to a local name -/
theorem sSetLC {i : Nat} {y : Str} {py spos : Pos} {elt tge iter : Expr} {ifs : List Expr} {scope : Scope} {own : List (Str × Nat)} {pos : Pos} {mi : M (List D)} {tg : Tg} {mt : M Bool} {me : M D}
    (hc : X.calm = true) (hN : X.N.Nodup) (hy : X.N[i]? = some y) (hyl : X.env.scope.names.lookup y = some .local) (hsw : swapsWith (.ListComp elt [⟨tge, iter, ifs, 0⟩] scope pos) (some (.Name y py)) spos.line X.env = pure true) (hi : PI X tge iter (rdI g F W mi)) (ok : BlkOk X.N X.env.scope scope own)
    (hg : ∀ F (s : Shared) (H : Hp) (C : Addr) (cl : List (Str × Addr)) (fp : List Addr), PG (X.blk s H scope (compEnvC scope cl C X.env) fp) tge (rdG g F WF (own.map (·.2)) (mTg tg)))
    (ht : ∀ F (s : Shared) (H : Hp) (C : Addr) (cl : List (Str × Addr)) (fp : List Addr), PTs (X.blk s H scope (compEnvC scope cl C X.env) fp) ifs (rdT g F WF mt))
    (he : ∀ F (s : Shared) (H : Hp) (C : Addr) (cl : List (Str × Addr)) (fp : List Addr), PE (X.blk s H scope (compEnvC scope cl C X.env) fp) elt (rdZ g F WF me)) (hs : ∀ x, foldedSetIterable iter X.env x = pure x) :
    PS X (.Assign [.Name y py] (.ListComp elt [⟨tge, iter, ifs, 0⟩] scope pos) spos) (rdS g F W (mSet i (mComp mi (own.map (·.2)) tg mt me))) :=
  PS.imp (ps_setLc (g := fun v σ H Q => ∃ F', rdG g F' WF (own.map (·.2)) (mTg tg) v σ H Q) (tt := fun σ H Q => ∃ F', rdT g F' WF mt σ H Q) (te := fun σ H Q => ∃ F', rdZ g F' WF me σ H Q) hc hN hy hyl hsw hi ok
    (fun s H C cl fp => ⟨fun pins s σ H v u Q I r ⟨F', q⟩ => (hg F' _ _ C cl fp).run pins s σ H v u Q I r q⟩) (fun s H C cl fp => ⟨fun pins s σ H Q I ⟨F', q⟩ => (ht F' _ _ C cl fp).run pins s σ H Q I q⟩)
    (fun s H C cl fp => ⟨fun pins s σ H Q I ⟨F', q⟩ => (he F' _ _ C cl fp).run pins s σ H Q I q⟩) hs) fun E σ H q => by
      have q2 := iSet q
      exact sComp (pos := pos) hc hN hi ok hg ht he hs σ H _ q2
end

/-! ### calls -/
inductive RF where
  | ok (d : D) (fr : Bool) (c : Cells)
  | exc (k : Nat) (fs : List (Str × D)) (c : Cells)
  | stuck
abbrev Phi := List D → Cells → RF
@[simp] def startE (n : Nat) (ds : List D) : Env := ds.map .fz ++ List.replicate (n - ds.length) .no
/-- a def's body: n slots -/
@[simp] def runDef (n : Nat) (m : M Fl) : Phi := fun ds cs => match m (startE n ds) cs with
  | .ok (.rt d fr) _ c => .ok d fr c
  | .ok .nx _ c => .ok .non false c
  | .ok _ _ _ => .stuck
  | .exc k fs _ c => .exc k fs c
  | .stuck => .stuck
/-- a call's value -/
def ResF (g : Glob) (H0 H S : Hp) (mu : List Addr) (v : V) (d : D) : Bool → Prop
  | false => Rp g S mu v d
  | true => ∃ a, v = .ref a ∧ H0 a = none ∧ S a = none ∧ a ∉ mu ∧ At g H S mu a d
/-- what a call leaves -/
structure Aft (g : Glob) (H S : Hp) (mu : List Addr) (H' S' : Hp) (mu' : List Addr) (cs' : Cells) : Prop where
  gr : Gr H S mu H' S' mu'
  hs : HS g H' S' mu' cs'
  t : ∀ b u, S' b = some u → S b = some u ∨ H b = none
def PoF (g : Glob) (H S : Hp) (mu : List Addr) (Q : VK) (E : XK) : RF → Prop
  | .ok d fr cs' => ∀ v H' S' mu', Aft g H S mu H' S' mu' cs' → ResF g H H' S' mu' v d fr → Q v H'
  | .exc k fs cs' => ∀ dx H' S' mu', Aft g H S mu H' S' mu' cs' → XcOk g H' S' mu' dx fs → E (.ref (g.ca k)) (some dx) H'
  | .stuck => False
def spF (g : Glob) (n : Nat) (φ : Phi) : Sp := fun vs H Q E => vs.length = n ∧ ∃ S mu cs ds, HS g H S mu cs ∧ RpL g S mu vs ds ∧ PoF g H S mu Q E (φ ds cs)
section
variable {g : Glob} {F : Ent} {W : WX} {X : Cx}
/-- behind a call -/
theorem Aft.rel {σ : SS} {H H' S S' : Hp} {mu mu' : List Addr} {env : Env} {cs cs' : Cells} (r : Rel g F σ H S mu env cs) (a : Aft g H S mu H' S' mu' cs') : Rel g F σ H' S' mu' env cs' := by
  have keep : ∀ b o, H b = some o → S b = none → b ∉ mu → S' b = none ∧ b ∉ mu' ∧ H' b = some o := fun b o h hs hm => by
    refine ⟨?_, fun z => ?_, a.gr.h b o h hm⟩
    · cases e : S' b with
      | none => rfl
      | some u =>
        rcases a.t b u e with z | z
        · rw [hs] at z; cases z
        · rw [h] at z; cases z
    · rcases a.gr.n b z with y | y
      · exact hm y
      · rw [h] at y; cases y
  have nofrz : ∀ b ob u, H b = some (.frz ob u) → b ∉ mu := fun b ob u h hm => by
    obtain ⟨i, hi⟩ := List.mem_iff_getElem?.mp hm
    obtain ⟨c, _, _, q⟩ := r.hs.cellAt hi
    cases c <;> first | exact q.elim | skip
    all_goals (first | (obtain ⟨_, e, _⟩ := q; rw [h] at e; cases e; done) | (obtain ⟨_, _, e, _⟩ := q; rw [h] at e; cases e))
  refine ⟨a.hs, ⟨r.fi.mo.trans a.gr.mo, fun b o h hm => ?_, fun b hb => ?_, fun b u e => ?_, fun p hp => ?_, fun b hb => ?_⟩, r.len, fun i d e => ?_, fun i d e => ?_, r.sep⟩
  · refine a.gr.h b o (r.fi.h b o h hm) fun z => ?_
    rcases r.fi.n b z with y | y
    · exact hm y
    · rw [h] at y; cases y
  · rcases a.gr.n b hb with z | z
    · exact r.fi.n b z
    · exact .inr (r.fi.fresh r.hs z)
  · rcases a.t b u e with z | z
    · exact r.fi.t b u z
    · exact .inr (r.fi.fresh r.hs z)
  · exact a.gr.h _ _ (r.fi.l p hp) (nofrz _ _ _ (r.fi.l p hp))
  · obtain ⟨k1, k2, k3, o, k4⟩ := r.fi.r b hb
    obtain ⟨j1, j2, j3⟩ := keep b o k4 k1 k2
    exact ⟨j1, j2, k3, o, j3⟩
  · obtain ⟨v, k1, k2⟩ := r.fz i d e
    exact ⟨v, k1, k2.mono a.gr.mo⟩
  · obtain ⟨b, k1, k2, k3, k4, k5⟩ := r.ow i d e
    obtain ⟨o, ho⟩ := k5.has
    obtain ⟨j1, j2, j3⟩ := keep b o ho k2 k3
    exact ⟨b, k1, j1, j2, k4, k5.keep a.gr.mo fun x hx => a.gr.h b x hx k3⟩
theorem ResF.res {σ : SS} {H H' S S' : Hp} {mu mu' : List Addr} {env : Env} {cs cs' : Cells} {v : V} {d : D} {fr : Bool} (r : Rel g F σ H S mu env cs) (x : ResF g H H' S' mu' v d fr) : Res g F σ env H' S' mu' v d fr := by
  cases fr with
  | false => exact x
  | true =>
    obtain ⟨a, e, h1, h2, h3, h4⟩ := x
    refine ⟨a, e, h2, h3, ⟨r.fi.fresh r.hs h1, fun z => ?_⟩, h4, fun i d' q z => ?_⟩
    · obtain ⟨_, _, _, o, ho⟩ := r.fi.r a z
      rw [ho] at h1; cases h1
    · obtain ⟨b, k1, _, _, _, k5⟩ := r.ow i d' q
      rw [k1] at z
      cases z
      obtain ⟨o, ho⟩ := k5.has
      rw [ho] at h1; cases h1
def mPhi (φ : Phi) (ds : List D) : M (D × Bool) := fun env cs => match φ ds cs with
  | .ok d fr c => .ok (d, fr) env c
  | .exc k fs c => .exc k fs env c
  | .stuck => .stuck
/-- the call's wish about exceptions -/
abbrev EOf (W : WX) (σ : SS) : XK := fun cls d H => W cls d σ H
theorem RA.call {φ : Phi} {ds : List D} {vs : List V} {σ : SS} {H S : Hp} {mu : List Addr} {env : Env} {cs : Cells} {Q : VK} {n : Nat}
    (h : RA g F W (TRes g F) (mPhi φ ds) σ H S mu env cs Q) (rl : RpL g S mu vs ds) (hn : vs.length = n) : spF g n φ vs H Q (EOf W σ) := by
  obtain ⟨r, q⟩ := h
  refine ⟨hn, S, mu, cs, ds, r.hs, rl, ?_⟩
  unfold mPhi at q
  cases e : φ ds cs with
  | stuck => simp only [e] at q; exact q
  | ok d fr c =>
    simp only [e] at q
    exact fun v H' S' mu' a x => q v H' S' mu' a.gr (a.rel r) (ResF.res (cs' := c) r x)
  | exc k fs c =>
    simp only [e] at q
    exact fun dx H' S' mu' a x => q dx H' S' mu' (a.rel r) x

/-! ### arguments put in order -/
inductive Src where
  | p (i : Nat)
  | k (i : Nat)
  | d (v : V) (x : D)
def arrV (sh : List Src) (vs zs : List V) : List V := sh.map fun
  | .p i => vs.getD i .non
  | .k i => zs.getD i .non
  | .d v _ => v
@[simp] def arrD (sh : List Src) (ds es : List D) : List D := sh.map fun
  | .p i => ds.getD i .non
  | .k i => es.getD i .non
  | .d _ x => x
theorem RpL.getD {S : Hp} {mu : List Addr} : ∀ {vs : List V} {ds : List D} (i : Nat), RpL g S mu vs ds → Rp g S mu (vs.getD i .non) (ds.getD i .non)
  | _, _, _, .nil => .non
  | _, _, 0, .cons h _ => h
  | _, _, i + 1, .cons _ r => RpL.getD i r
def DflOk (g : Glob) (sh : List Src) : Prop := ∀ v x, Src.d v x ∈ sh → ∀ S mu, Rp g S mu v x
theorem arr_rp {S : Hp} {mu : List Addr} {vs zs : List V} {ds es : List D} (h1 : RpL g S mu vs ds) (h2 : RpL g S mu zs es) : ∀ (sh : List Src), DflOk g sh → RpL g S mu (arrV sh vs zs) (arrD sh ds es)
  | [], _ => .nil
  | .p i :: sh, h => .cons (h1.getD i) (arr_rp h1 h2 sh fun v x m => h v x (List.mem_cons_of_mem _ m))
  | .k i :: sh, h => .cons (h2.getD i) (arr_rp h1 h2 sh fun v x m => h v x (List.mem_cons_of_mem _ m))
  | .d v x :: sh, h => .cons (h v x List.mem_cons_self S mu) (arr_rp h1 h2 sh fun v x m => h v x (List.mem_cons_of_mem _ m))
def mCall (φ : Phi) (sh : List Src) (mp mk : M (List D)) : M (D × Bool) := mp.bind fun ds => mk.bind fun es => mPhi φ (arrD sh ds es)
/-- what a callee lets out is welcome, by the slots as they stand -/
def PassAt (X : Cx) (σ : SS) (E : XK) : Prop := ∀ (pins : List (Addr × Obj)) (H : Hp) (s : Shared) (e : Value) (s' : Shared), L2.Inv X pins σ H s → L2.CX X.prog X.w X.stack H s E e s' → X.xe e s'
theorem pass_at {σ : SS} (tk : Takes X W) : PassAt X σ (EOf W σ) := fun _ _ _ e s' I c => tk e s' (XE.of_call I (fun _ _ _ h => h) c)
/-- a def's promise, where nothing that guards against recursion is under way -/
structure FnG (P : Program) (w : World) (K : PySem.W.Frag) (mg : Str → Option Value) (base : Heap) (C : CXT) (k : Nat) (f : Addr) (fd : FuncData) (ps : List Str) (sp : Sp) : Prop where
  len : ∀ vs H Q E, sp vs H Q E → vs.length = ps.length
  run : ∀ (A : Around) (outer : List PySem.Env) (s : Shared) (H : Hp) (ar : Args) (us : List Value) (vs : List V) (Q : VK) (E : XK), Room k A → A.guards = some [] → Env0 P w K mg base A outer s H → BindsTo s fd ar (ps.zip us) → Vals vs us → sp vs H Q E →
    codeAny (model P w) A (.call (.ref f) ar) (CR C outer P w H s Q E) s
theorem FnOk.toG {P : Program} {w : World} {K : PySem.W.Frag} {mg : Str → Option Value} {base : Heap} {C : CXT} {k : Nat} {f : Addr} {fd : FuncData} {ps : List Str} {sp : Sp} (G : FnOk P w K mg base C k f fd ps sp) : FnG P w K mg base C k f fd ps sp :=
  ⟨G.len, fun A o s H ar us vs Q E hr _ => G.run A o s H ar us vs Q E hr⟩
theorem FnG.mono {P : Program} {w : World} {K : PySem.W.Frag} {mg : Str → Option Value} {base : Heap} {C : CXT} {j k : Nat} {f : Addr} {fd : FuncData} {ps : List Str} {sp : Sp} (G : FnG P w K mg base C j f fd ps sp) (h : j ≤ k) : FnG P w K mg base C k f fd ps sp :=
  ⟨G.len, fun A o s H ar us vs Q E hr hg => G.run A o s H ar us vs Q E (hr.mono h) hg⟩
theorem run_at {k n : Nat} {f : Addr} {fd : FuncData} {ps ks : List Str} {sp : Sp} {E : XK} {gU : List Value → List Value → List Value} {gV : List V → List V → List V} {pins : List (Addr × Obj)} {σ : SS} {H : Hp} {s : Shared} {Q : VK} {us ws : List Value} {vs zs : List V}
    (G : FnG X.prog X.w X.K X.mg X.base (L2.CX X.prog X.w) k f fd ps sp) (hr : Room k X.A) (hgd : X.A.guards = some []) (hb : KBn X.K fd ps n ks gU gV) (hx : PassAt X σ E) (I : L2.Inv X pins σ H s) (r : Vals vs us) (rz : Vals zs ws) (l1 : vs.length = n) (l2 : zs.length = ks.length)
    (h : sp (gV vs zs) H Q E) : wpAny (model X.prog X.w) X.A (call (.ref f) us (ks.zip ws)) (EP X pins σ Q) X.xe s := by
  refine wpAny_call (codeAny_mono (G.run X.A X.stack s H ⟨us, ks.zip ws⟩ (gU us ws) (gV vs zs) Q E hr hgd I.env0 (hb.to s us ws I.kIn (r.length.symm.trans l1) (rz.length.symm.trans l2)) (hb.rel r rz) h) fun res s' hq => ?_)
  match res, hq with
  | .error e, hq => exact hx pins H s e s' I hq
  | .ok (.ret u), hq => exact I.after hq
/-- f(e, .., k = v, ..) -/
theorem pe_callG {k n : Nat} {f : Addr} {fd : FuncData} {ps ks : List Str} {sp : Sp} {x : Str} {p pos : Pos} {e : Expr} {es : List Expr} {kws : List Keyword} {t tk : TA} {gU : List Value → List Value → List Value} {gV : List V → List V → List V}
    (G : FnG X.prog X.w X.K X.mg X.base (L2.CX X.prog X.w) k f fd ps sp) (hr : Room k X.A) (hgd : X.A.guards = some []) (hg : Gl X x) (hm : X.mg x = some (.ref f)) (hk : PySem.W.keepIn X.K (.ref f) = true) (hb : KBn X.K fd ps n ks gU gV)
    (ha : PA X (e :: es) t) (hkw : PK X kws tk) (hall : (backToKw pos (keywordEach kws X.env)).all (·.1.isSome) = true) (hks : (backToKw pos (keywordEach kws X.env)).filterMap (·.1) = ks)
    (hdb : (x == ("__debug__" : Str)) = false) (hst : ∀ x p, e ≠ .Starred x p) (hpl : ((backTo pos (starEach (e :: es) X.env)).any (·.1) || (backToKw pos (keywordEach kws X.env)).any (·.1.isNone)) = false) :
    PE X (.Call (.Name x p) (e :: es) kws pos) (fun σ H Q => t σ H fun vs H1 => tk σ H1 fun zs H2 => vs.length = n ∧ zs.length = ks.length ∧ ∃ E, PassAt X σ E ∧ sp (gV vs zs) H2 Q E) := by
  refine ⟨fun pins s σ H Q I h => ?_⟩
  refine wpAny_Call_Name_kw (ld_glob I hg hm ?_ hdb)
  refine PySem.W.callWith_KW (h₀ := X.base) I.ok.mod.kin hk hall (thn (ha.run pos pins s σ H _ I h) fun us s1 ⟨vs, H1, I1, r, q⟩ => ?_) hpl (starEach_cons hst)
  refine thn (hkw.run pos pins s1 σ H1 _ I1 q) fun ws s2 ⟨zs, H2, I2, rz, l1, l2, E, hx, q2⟩ => ⟨I2.kIn, ?_⟩
  rw [hks]
  exact run_at G hr hgd hb hx I2 r rz l1 l2 q2
/-- f(k = v, ..) -/
theorem pe_callG0 {k : Nat} {f : Addr} {fd : FuncData} {ps ks : List Str} {sp : Sp} {x : Str} {p pos : Pos} {kws : List Keyword} {tk : TA} {gU : List Value → List Value → List Value} {gV : List V → List V → List V}
    (G : FnG X.prog X.w X.K X.mg X.base (L2.CX X.prog X.w) k f fd ps sp) (hr : Room k X.A) (hgd : X.A.guards = some []) (hg : Gl X x) (hm : X.mg x = some (.ref f)) (hk : PySem.W.keepIn X.K (.ref f) = true) (hb : KBn X.K fd ps 0 ks gU gV)
    (hkw : PK X kws tk) (hall : (backToKw pos (keywordEach kws X.env)).all (·.1.isSome) = true) (hks : (backToKw pos (keywordEach kws X.env)).filterMap (·.1) = ks)
    (hdb : (x == ("__debug__" : Str)) = false) (hpl : ((backTo pos (starEach [] X.env)).any (·.1) || (backToKw pos (keywordEach kws X.env)).any (·.1.isNone)) = false) :
    PE X (.Call (.Name x p) [] kws pos) (fun σ H Q => tk σ H fun zs H2 => zs.length = ks.length ∧ ∃ E, PassAt X σ E ∧ sp (gV [] zs) H2 Q E) := by
  refine ⟨fun pins s σ H Q I h => ?_⟩
  refine wpAny_Call_Name_kw (ld_glob I hg hm ?_ hdb)
  refine PySem.W.callWith_KW0 (h₀ := X.base) I.ok.mod.kin hk hall (thn (hkw.run pos pins s σ H _ I h) fun ws s2 ⟨zs, H2, I2, rz, l2, E, hx, q2⟩ => ⟨I2.kIn, ?_⟩) hpl
  rw [hks]
  exact run_at (us := []) G hr hgd hb hx I2 .nil rz rfl l2 q2
/-! ### keywords' values -/
theorem PK.imp {kws : List Keyword} {t t' : TA} (h : PK X kws t) (i : ∀ σ H Q, t' σ H Q → t σ H Q) : PK X kws t' := ⟨fun pos pins s σ H Q I q => h.run pos pins s σ H Q I (i σ H Q q)⟩
theorem sKNil : PK X [] (rdA g F W (M.pure [])) := PK.imp pk_nil fun σ H Q ⟨S, mu, env, cs, ra⟩ => ra.pure .nil
theorem sKCons {e : Expr} {nm : Option Str} {kpos : Pos} {kws : List Keyword} {ma : M D} {mr : M (List D)} (h1 : PE X e (rdZ g F W ma)) (h2 : PK X kws (rdA g F W mr)) : PK X (⟨nm, e, kpos⟩ :: kws) (rdA g F W (mCons ma mr)) :=
  PK.imp (pk_cons h1 h2) fun σ H Q q => rd_bind q fun d env1 cs1 v H1 S1 mu1 t r1 =>
    (r1.bind fun ds env2 cs2 vs H2 S2 mu2 gr t2 r2 => r2.pure (.cons (t.mono gr.mo) t2)).rd
/-- so many -/
def Many {α : Type} (n : Nat) (m : M (List α)) : Prop := ∀ env cs ds env' cs', m env cs = .ok ds env' cs' → ds.length = n
theorem Many.nil : Many (α := D) 0 (M.pure []) := fun env cs ds env' cs' e => by cases e; rfl
theorem Many.cons {n : Nat} {ma : M D} {mr : M (List D)} (h : Many n mr) : Many (n + 1) (mCons ma mr) := fun env cs ds env' cs' e => by
  unfold mCons M.bind M.pure at e
  cases e1 : ma env cs with
  | stuck => rw [e1] at e; cases e
  | exc => rw [e1] at e; cases e
  | ok d e2 c2 =>
    rw [e1] at e
    cases e3 : mr e2 c2 with
    | stuck => simp only [e3] at e; cases e
    | exc => simp only [e3] at e; cases e
    | ok ds' e4 c4 =>
      simp only [e3] at e
      cases e
      rw [List.length_cons, h _ _ _ _ _ e3]
theorem Many.short {α : Type} {n : Nat} {m : M (List α)} (h : Many n m) (hn : n ≤ 1000) : Short m := fun env cs ds env' cs' e => by
  rw [h _ _ _ _ _ e]
  exact Nat.le_trans hn (by decide)
theorem RA.many {α : Type} {n : Nat} {T : SS → Env → Hp → Hp → List Addr → List V → List α → Prop} {α' β' : Type} {T' : SS → Env → Hp → Hp → List Addr → β' → α' → Prop} {m : M (List α)} {f : List α → M α'} {σ : SS} {H S : Hp} {mu : List Addr} {env : Env} {cs : Cells} {Q : β' → Hp → Prop} {Q1 : List V → Hp → Prop} (sh : Many n m)
    (h : RA g F W T' (m.bind f) σ H S mu env cs Q) (i : ∀ a env1 cs1 v H1 S1 mu1, Gr H S mu H1 S1 mu1 → T σ env1 H1 S1 mu1 v a → a.length = n → RA g F W T' (f a) σ H1 S1 mu1 env1 cs1 Q → Q1 v H1) : RA g F W T m σ H S mu env cs Q1 := by
  obtain ⟨r, q⟩ := h
  rw [Post.bind] at q
  refine ⟨r, ?_⟩
  cases e1 : m env cs with
  | stuck => rw [e1] at q; exact q
  | exc k fs e c => rw [e1] at q; exact q
  | ok a env1 cs1 =>
    rw [e1] at q
    exact fun v H1 S1 mu1 gr rl t => i a env1 cs1 v H1 S1 mu1 gr t (sh _ _ _ _ _ e1) ⟨rl, Post.on q fun b e c k v' H' S' mu' gr' => k v' H' S' mu' (gr.trans gr')⟩
/-- a call of an own def -/
theorem sCall {k n : Nat} {f : Addr} {fd : FuncData} {ps ks : List Str} {x : Str} {p pos : Pos} {e : Expr} {es : List Expr} {kws : List Keyword} {mp mk : M (List D)} {sh : List Src} {φ : Phi} {gU : List Value → List Value → List Value}
    (G : FnG X.prog X.w X.K X.mg X.base (L2.CX X.prog X.w) k f fd ps (spF g ps.length φ)) (hr : Room k X.A) (hgd : X.A.guards = some []) (tk : Takes X W) (hg : Gl X x) (hm : X.mg x = some (.ref f)) (hk : PySem.W.keepIn X.K (.ref f) = true) (hb : KBn X.K fd ps n ks gU (arrV sh)) (hsh : sh.length = ps.length) (hd : DflOk g sh)
    (ha : PA X (e :: es) (rdA g F W mp)) (hkw : PK X kws (rdA g F W mk)) (hp : Many n mp) (hq : Many ks.length mk) (hall : (backToKw pos (keywordEach kws X.env)).all (·.1.isSome) = true) (hks : (backToKw pos (keywordEach kws X.env)).filterMap (·.1) = ks)
    (hdb : (x == ("__debug__" : Str)) = false) (hst : ∀ x p, e ≠ .Starred x p) (hpl : ((backTo pos (starEach (e :: es) X.env)).any (·.1) || (backToKw pos (keywordEach kws X.env)).any (·.1.isNone)) = false) :
    PE X (.Call (.Name x p) (e :: es) kws pos) (rdE g F W (mCall φ sh mp mk)) :=
  PE.imp (pe_callG G hr hgd hg hm hk hb ha hkw hall hks hdb hst hpl) fun σ H Q ⟨S, mu, env, cs, ra⟩ => by
    refine (RA.many (T := TRl g) hp ra fun ds env1 cs1 vs H1 S1 mu1 gr t l1 r1 => (RA.many (T := TRl g) hq r1 fun es env2 cs2 zs H2 S2 mu2 gr2 t2 l2 r2 => ?_).rd).rd
    refine ⟨by rw [t.length, l1], by rw [t2.length, l2], EOf W σ, pass_at tk, ?_⟩
    exact RA.call r2 (arr_rp (t.mono gr2.mo) t2 sh hd) (by unfold arrV; rw [List.length_map, hsh])
theorem sCall0 {k : Nat} {f : Addr} {fd : FuncData} {ps ks : List Str} {x : Str} {p pos : Pos} {kws : List Keyword} {mk : M (List D)} {sh : List Src} {φ : Phi} {gU : List Value → List Value → List Value}
    (G : FnG X.prog X.w X.K X.mg X.base (L2.CX X.prog X.w) k f fd ps (spF g ps.length φ)) (hr : Room k X.A) (hgd : X.A.guards = some []) (tk : Takes X W) (hg : Gl X x) (hm : X.mg x = some (.ref f)) (hk : PySem.W.keepIn X.K (.ref f) = true) (hb : KBn X.K fd ps 0 ks gU (arrV sh)) (hsh : sh.length = ps.length) (hd : DflOk g sh)
    (hkw : PK X kws (rdA g F W mk)) (hq : Many ks.length mk) (hall : (backToKw pos (keywordEach kws X.env)).all (·.1.isSome) = true) (hks : (backToKw pos (keywordEach kws X.env)).filterMap (·.1) = ks)
    (hdb : (x == ("__debug__" : Str)) = false) (hpl : ((backTo pos (starEach [] X.env)).any (·.1) || (backToKw pos (keywordEach kws X.env)).any (·.1.isNone)) = false) :
    PE X (.Call (.Name x p) [] kws pos) (rdE g F W (mCall φ sh (M.pure []) mk)) :=
  PE.imp (pe_callG0 G hr hgd hg hm hk hb hkw hall hks hdb hpl) fun σ H Q ⟨S, mu, env, cs, ra⟩ => by
    refine (RA.many (T := TRl g) (f := fun es => mPhi φ (arrD sh [] es)) hq ra fun es env2 cs2 zs H2 S2 mu2 gr2 t2 l2 r2 => ?_).rd
    refine ⟨by rw [t2.length, l2], EOf W σ, pass_at tk, ?_⟩
    exact RA.call r2 (arr_rp .nil t2 sh hd) (by unfold arrV; rw [List.length_map, hsh])

/-! ### a def's body -/
theorem start_get {vs : List V} {N : List Str} {i : Nat} {v : V} (h : vs[i]? = some v) : (L2.start N vs)[i]? = some (some v) := by
  have hi : i < vs.length := (List.getElem?_eq_some_iff.mp h).1
  unfold L2.start
  rw [List.getElem?_append_left (by simpa using hi), List.getElem?_map, h]
  rfl
theorem startE_at {n : Nat} {ds : List D} {i : Nat} {s : Slot} (h : (startE n ds)[i]? = some s) : s = .no ∨ ∃ d, ds[i]? = some d ∧ s = .fz d := by
  unfold startE at h
  by_cases hi : i < ds.length
  · rw [List.getElem?_append_left (by simpa using hi), List.getElem?_map, List.getElem?_eq_getElem hi] at h
    exact .inr ⟨_, List.getElem?_eq_getElem hi, (Option.some.inj h).symm⟩
  · rw [List.getElem?_append_right (by simpa using hi), List.getElem?_replicate] at h
    split at h
    · exact .inl (Option.some.inj h).symm
    · cases h
theorem rel_start {H S : Hp} {mu : List Addr} {cs : Cells} {vs : List V} {ds : List D} {N : List Str} (hs : HS g H S mu cs) (rl : RpL g S mu vs ds) : Rel g ⟨H, S, mu, [], []⟩ (start N vs) H S mu (startE N.length ds) cs := by
  refine ⟨hs, ⟨.refl, fun _ _ h _ => h, fun _ h => .inl h, fun _ _ h => .inl h, (fun _ h => nomatch h), (fun _ h => nomatch h)⟩, ?_, fun i d e => ?_, fun i d e => ?_, fun i j d d' a e => ?_⟩
  · unfold startE L2.start
    rw [List.length_append, List.length_append, List.length_map, List.length_map, List.length_replicate, List.length_replicate, rl.length]
  · rcases startE_at e with z | ⟨d', h1, h2⟩
    · cases z
    · cases h2
      obtain ⟨v, hv, rv⟩ := rl.get h1
      exact ⟨v, start_get hv, rv⟩
  · rcases startE_at e with z | ⟨d', h1, h2⟩
    · cases z
    · cases h2
  · rcases startE_at e with z | ⟨d', h1, h2⟩
    · cases z
    · cases h2
theorem rel_aft {H S : Hp} {mu : List Addr} {σ : SS} {H' S' : Hp} {mu' : List Addr} {env : Env} {cs : Cells} (r : Rel g ⟨H, S, mu, [], []⟩ σ H' S' mu' env cs) : Aft g H S mu H' S' mu' cs := ⟨⟨r.fi.mo, r.fi.h, r.fi.n⟩, r.hs, r.fi.t⟩
theorem res_F {H S : Hp} {mu : List Addr} {σ : SS} {H' S' : Hp} {mu' : List Addr} {env : Env} {v : V} {d : D} {fr : Bool} (x : Res g ⟨H, S, mu, [], []⟩ σ env H' S' mu' v d fr) : ResF g H H' S' mu' v d fr := by
  cases fr with
  | false => exact x
  | true =>
    obtain ⟨a, e, h1, h2, h3, h4, _⟩ := x
    exact ⟨a, e, h3.1, h1, h2, h4⟩
/-- the body's reading at the entry -/
theorem run_start {m : M Fl} {N : List Str} {vs : List V} {H : Hp} {Q : VK} {E : XK} {n : Nat} (h : spF g n (runDef N.length m) vs H Q E) :
    ∃ F, rdS g F (fun cls d _ H => E cls d H) m { nx := fun _ H' => Q .non H', rt := Q } (start N vs) H := by
  obtain ⟨hn, S, mu, cs, ds, hs, rl, p⟩ := h
  refine ⟨⟨H, S, mu, [], []⟩, S, mu, startE N.length ds, cs, rel_start hs rl, ?_⟩
  unfold runDef at p
  unfold PoS
  cases e : m (startE N.length ds) cs with
  | stuck => rw [e] at p; exact p
  | exc k fs e' c' =>
    rw [e] at p
    exact fun σ dx H' S' mu' r x => p dx H' S' mu' (rel_aft r) x
  | ok fl e' c' =>
    rw [e] at p
    cases fl with
    | nx => exact fun σ' H' S' mu' r => p .non H' S' mu' (rel_aft r) .non
    | bk => exact p.elim
    | ct => exact p.elim
    | rt d fr => exact fun v σ' H' S' mu' r t => p v H' S' mu' (rel_aft r) (res_F t)
end
end EL
namespace EL
open PySem PySem.Spec L2

/-! ### < <= > >= -/
@[simp] def cmpI (p : Int → Int → Bool) (q : Str → Str → Bool) : F2
  | .int i, .int j => some (.bl (p i j), false)
  | .str x, .str y => some (.bl (q x y), false)
  | _, _ => none
theorem cmpI_eq {p q} : cmpI p q = orF (intF (fun _ _ => true) fun i j => .bl (p i j)) (strF (fun _ _ => true) fun x y => .bl (q x y)) := by
  funext a b
  cases a <;> cases b <;> rfl
theorem v_cmp {g : Glob} {p : Int → Int → Bool} {q : Str → Str → Bool} {r : R2} (h : ∀ i j H Q, Q (.bl (q i j)) H → r (.str i) (.str j) H Q) : OpV g (cmpI p q) (fun x y H Q => rI0 (fun i j => .bl (p i j)) x y H Q ∨ r x y H Q) := by
  rw [cmpI_eq]
  exact OpV.or (OpV.int0 fun _ _ _ _ => .bl _) (OpV.str (fV := fun x y => .bl (q x y)) (fun _ _ _ _ => .bl _) fun i j H Q _ k => h i j H Q k)
def strLt (x y : Str) : Bool := decide (x.cps.toList < y.cps.toList)
def opLt : F2 := cmpI (fun i j => decide (i < j)) strLt
def opLe : F2 := cmpI (fun i j => decide (i ≤ j)) fun x y => !strLt y x
def opGt : F2 := cmpI (fun i j => decide (j < i)) fun x y => strLt y x
def opGe : F2 := cmpI (fun i j => decide (j ≤ i)) fun x y => !strLt x y
section
variable {g : Glob}
theorem s_lt : OpS g (compareOp .Lt) opLt := fun X hK _ => ⟨_, op_lt.or op_lt_str, v_cmp fun i j H Q k => ⟨i, j, rfl, rfl, k⟩⟩
theorem s_le : OpS g (compareOp .LtE) opLe := fun X hK _ => ⟨_, op_le.or op_le_str, v_cmp fun i j H Q k => ⟨i, j, rfl, rfl, k⟩⟩
theorem s_gt : OpS g (compareOp .Gt) opGt := fun X hK _ => ⟨_, op_gt.or op_gt_str, v_cmp fun i j H Q k => ⟨i, j, rfl, rfl, k⟩⟩
theorem s_ge : OpS g (compareOp .GtE) opGe := fun X hK _ => ⟨_, op_ge.or op_ge_str, v_cmp fun i j H Q k => ⟨i, j, rfl, rfl, k⟩⟩
end

/-! ### is, is not: None, True, False on the right -/
@[simp] def isNonD : D → Bool
  | .non => true
  | _ => false
@[simp] def isBlD (b : Bool) : D → Bool
  | .bl c => c == b
  | _ => false
@[simp] def isF (n : Bool) : F2
  | a, .non => some (.bl (n != isNonD a), false)
  | a, .bl b => some (.bl (n != isBlD b a), false)
  | _, _ => none
def rIsS (n : Bool) : R2 := fun x y H Q => (y = .non ∨ ∃ b, y = .bl b) ∧ Q (.bl (n != decide (x = y))) H
theorem plain_is {x y : V} {v u : Value} (rx : RelV x v) (ry : RelV y u) (h : y = .non ∨ ∃ b, y = .bl b) : plainIs v u = true ∧ (v == u) = decide (x = y) := by
  rcases h with rfl | ⟨b, rfl⟩
  · cases (show u = Value.none from ry)
    cases x <;> first | (cases (show _ = _ from rx); exact ⟨rfl, rfl⟩) | (obtain ⟨t, rfl⟩ := rx; exact ⟨rfl, rfl⟩)
  · cases (show u = Value.bool b from ry)
    cases x <;> first | (obtain ⟨t, rfl⟩ := rx; exact ⟨rfl, rfl⟩) | (cases (show _ = _ from rx); exact ⟨rfl, rfl⟩) | skip
    cases (show v = Value.bool _ from rx)
    refine ⟨rfl, ?_⟩
    rename_i c
    cases b <;> cases c <;> rfl
theorem op_isS {X : Cx} : OpR X (compareOp .Is) (rIsS false) := by
  intro pins s σ H x y v u Q I rx ry ⟨h, q⟩
  obtain ⟨h1, h2⟩ := plain_is rx ry h
  exact wpAny_is_plain h1 ⟨.bl _, H, I, rfl, by rw [h2]; simpa using q⟩
theorem op_notS {X : Cx} : OpR X (compareOp .IsNot) (rIsS true) := by
  intro pins s σ H x y v u Q I rx ry ⟨h, q⟩
  obtain ⟨h1, h2⟩ := plain_is rx ry h
  exact wpAny_isNot_plain h1 ⟨.bl _, H, I, rfl, by rw [h2]; simpa using q⟩
section
variable {g : Glob}
theorem v_is {n : Bool} : OpV g (isF n) (rIsS n) := fun H S mu cs v w a b x Q hs va vb e k => by
  cases b <;> first | (simp [isF] at e; done) | skip
  · cases vb.non
    cases e
    refine ⟨.inl rfl, ?_⟩
    have : decide (v = .non) = isNonD a := by
      cases a <;> first | (cases va.non; rfl) | (cases va.bl; rfl) | (cases va.int; rfl) | (cases va.str; rfl) | skip
      · obtain ⟨_, _, rfl, _⟩ := va.lst hs; rfl
      · obtain ⟨_, _, rfl, _⟩ := va.tup hs; rfl
      · obtain ⟨_, _, rfl, _⟩ := va.dct hs; rfl
      · obtain ⟨_, _, _, rfl, _⟩ := va.ins hs; rfl
      · rcases va with z | ⟨_, rfl, _⟩
        · cases z; rfl
        · rfl
    rw [this]
    exact k _ _ _ (.val (.bl _))
  · rename_i b
    cases vb.bl
    cases e
    refine ⟨.inr ⟨b, rfl⟩, ?_⟩
    have : decide (v = .bl b) = isBlD b a := by
      cases a <;> first | (cases va.non; rfl) | (cases va.int; rfl) | (cases va.str; rfl) | skip
      · rename_i c
        cases va.bl
        cases b <;> cases c <;> rfl
      · obtain ⟨_, _, rfl, _⟩ := va.lst hs; rfl
      · obtain ⟨_, _, rfl, _⟩ := va.tup hs; rfl
      · obtain ⟨_, _, rfl, _⟩ := va.dct hs; rfl
      · obtain ⟨_, _, _, rfl, _⟩ := va.ins hs; rfl
      · rcases va with z | ⟨_, rfl, _⟩
        · cases z; rfl
        · rfl
    rw [this]
    exact k _ _ _ (.val (.bl _))
theorem s_is : OpS g (compareOp .Is) (isF false) := fun X hK _ => ⟨_, op_isS, v_is⟩
theorem s_nis : OpS g (compareOp .IsNot) (isF true) := fun X hK _ => ⟨_, op_notS, v_is⟩
end

/-! ### == of data -/
def eqZ (f : D → D → Option Bool) : List D → List D → Option Bool
  | x :: xs, y :: ys => match f x y with
    | some a => (eqZ f xs ys).map fun b => a && b
    | none => none
  | _, _ => some true
def eqD : Nat → D → D → Option Bool
  | 0, _, _ => none
  | n + 1, a, b => match a, b with
    | .lst xs, .lst ys => if xs.length = ys.length then eqZ (eqD n) xs ys else some false
    | .tup xs, .tup ys => (eqZ (eqD n) xs ys).map fun b => b && xs.length == ys.length
    | .non, .non => some true
    | .bl a, .bl b => some (a == b)
    | .bl a, .int j => some ((if a then 1 else 0) == j)
    | .int i, .bl b => some (i == (if b then 1 else 0))
    | .int i, .int j => some (i == j)
    | .str x, .str y => some (x == y)
    | .dct _, _ => none
    | _, .dct _ => none
    | .ins _ _, _ => none
    | _, .ins _ _ => none
    | .cell _, _ => none
    | _, .cell _ => none
    | _, _ => some false

theorem eqZ_true {f : D → D → Option Bool} {P : D → D → Prop} (h : ∀ x y b, P x y → f x y = some b → b = true) : ∀ {xs ys : List D} {b : Bool}, (∀ (j : Nat) x y, xs[j]? = some x → ys[j]? = some y → P x y) → eqZ f xs ys = some b → b = true
  | [], ys, b, _, e => by cases ys <;> (cases e; rfl)
  | _ :: _, [], b, _, e => by cases e; rfl
  | x :: xs, y :: ys, b, hp, e => by
    unfold eqZ at e
    cases e1 : f x y with
    | none => rw [e1] at e; cases e
    | some a =>
      rw [e1] at e
      cases e2 : eqZ f xs ys with
      | none => rw [e2] at e; cases e
      | some c =>
        rw [e2] at e
        cases e
        rw [h x y a (hp 0 x y rfl rfl) e1, eqZ_true h (fun j x y h1 h2 => hp (j + 1) x y h1 h2) e2]
        rfl
/-- the pairs' answers, and theirs together -/
theorem eqZ_all {f : D → D → Option Bool} : ∀ {xs ys : List D} {b : Bool}, eqZ f xs ys = some b → ∃ q : Nat → Bool, (∀ (j : Nat) x y, xs[j]? = some x → ys[j]? = some y → f x y = some (q j)) ∧ b = (List.range (min xs.length ys.length)).all q
  | [], ys, b, e => by
    refine ⟨fun _ => true, (fun j x y h => by simp at h), ?_⟩
    cases ys <;> (cases e; simp)
  | _ :: _, [], b, e => by
    refine ⟨fun _ => true, (fun j x y _ h => by simp at h), ?_⟩
    cases e
    simp
  | x :: xs, y :: ys, b, e => by
    unfold eqZ at e
    cases e1 : f x y with
    | none => rw [e1] at e; cases e
    | some a =>
      rw [e1] at e
      cases e2 : eqZ f xs ys with
      | none => rw [e2] at e; cases e
      | some c =>
        rw [e2] at e
        cases e
        obtain ⟨q, h1, h2⟩ := eqZ_all e2
        refine ⟨fun j => match j with
          | 0 => a
          | j + 1 => q j, fun j x' y' k1 k2 => ?_, ?_⟩
        · cases j with
          | zero => cases k1; cases k2; exact e1
          | succ j => exact h1 j x' y' k1 k2
        · have el : min (x :: xs).length (y :: ys).length = min xs.length ys.length + 1 := by simp only [List.length_cons]; omega
          rw [el, List.range_succ_eq_map, List.all_cons, List.all_map, h2]
          rfl
section
variable {g : Glob} {X : Cx} {pins : List (Addr × Obj)} {σ : SS} {H S : Hp} {s : Shared} {mu : List Addr} {cs : Cells}
theorem not_both {a : Addr} {xs ys : List V} (I : L2.Inv X pins σ H s) (h1 : SqL X.K H a xs) (h2 : SqT X.K H a ys) : False := by
  obtain ⟨_, _, ⟨o, n, e, c, _⟩, _⟩ := I.list h1
  obtain ⟨_, _, ⟨o', e', c', _⟩, _⟩ := I.tuple h2
  rw [e] at e'
  cases e'
  rw [c] at c'
  exact absurd c' (by decide)
theorem eqD_same (I : L2.Inv X pins σ H s) (hs : HS g H S mu cs) (hK : X.K = g.K) : ∀ (n : Nat) (a b : D) (r : Bool), eqD n a b = some r → ∀ v, Rp g S mu v a → Rp g S mu v b → r = true
  | 0, _, _, _, e => nomatch e
  | n + 1, a, b, r, e => fun v ra rb => by
    have wa : Vw g H S mu v a := .inl ra
    have wb : Vw g H S mu v b := .inl rb
    cases a <;> cases b <;> first | (simp [eqD] at e; done) | skip
    · cases e; rfl
    · cases ra <;> cases rb
    · cases ra <;> cases rb
    · cases ra <;> cases rb
    · cases ra <;> cases rb
    · cases ra <;> cases rb
    · cases ra <;> cases rb
    · cases wa.bl; cases wb.bl; simp only [eqD, beq_self_eq_true] at e; cases e; rfl
    · cases ra <;> cases rb
    · cases ra <;> cases rb
    · cases ra <;> cases rb
    · cases ra <;> cases rb
    · cases ra <;> cases rb
    · cases ra <;> cases rb
    · cases wa.int; cases wb.int; simp only [eqD, beq_self_eq_true] at e; cases e; rfl
    · cases ra <;> cases rb
    · cases ra <;> cases rb
    · cases ra <;> cases rb
    · cases ra <;> cases rb
    · cases ra <;> cases rb
    · cases ra <;> cases rb
    · cases wa.str; cases wb.str; simp only [eqD, beq_self_eq_true] at e; cases e; rfl
    · cases ra <;> cases rb
    · cases ra <;> cases rb
    · cases ra <;> cases rb
    · cases ra <;> cases rb
    · cases ra <;> cases rb
    · cases ra <;> cases rb
    · obtain ⟨p, vs, rfl, h1, h2⟩ := wa.lst hs
      obtain ⟨p', ws, e', h3, h4⟩ := wb.lst hs
      cases e'
      have := I.list_inj (hK.symm ▸ h1) (hK.symm ▸ h3)
      subst this
      simp only [eqD] at e
      rw [if_pos (h2.length.symm.trans h4.length)] at e
      refine eqZ_true (P := fun x y => ∃ v, Rp g S mu v x ∧ Rp g S mu v y) (fun x y b ⟨v, k1, k2⟩ k => eqD_same I hs hK n x y b k v k1 k2) (fun j x y k1 k2 => ?_) e
      obtain ⟨v, j1, j2⟩ := h2.get k1
      obtain ⟨w, j3, j4⟩ := h4.get k2
      rw [j1] at j3; cases j3
      exact ⟨v, j2, j4⟩
    · obtain ⟨p, vs, rfl, h1, h2⟩ := wa.lst hs
      obtain ⟨p', ws, e', h3, h4⟩ := wb.tup hs
      cases e'
      exact (not_both I (hK.symm ▸ h1) (hK.symm ▸ h3)).elim
    · cases ra <;> cases rb
    · cases ra <;> cases rb
    · cases ra <;> cases rb
    · cases ra <;> cases rb
    · obtain ⟨p, vs, rfl, h1, h2⟩ := wa.tup hs
      obtain ⟨p', ws, e', h3, h4⟩ := wb.lst hs
      cases e'
      exact (not_both I (hK.symm ▸ h3) (hK.symm ▸ h1)).elim
    · obtain ⟨p, vs, rfl, h1, h2⟩ := wa.tup hs
      obtain ⟨p', ws, e', h3, h4⟩ := wb.tup hs
      cases e'
      have := I.tuple_inj (hK.symm ▸ h1) (hK.symm ▸ h3)
      subst this
      simp only [eqD] at e
      rename_i xs ys
      cases q : eqZ (eqD n) xs ys with
      | none => rw [q] at e; cases e
      | some c =>
        rw [q] at e
        cases e
        have hl : xs.length = ys.length := h2.length.symm.trans h4.length
        rw [eqZ_true (P := fun x y => ∃ v, Rp g S mu v x ∧ Rp g S mu v y) (fun x y b ⟨v, k1, k2⟩ k => eqD_same I hs hK n x y b k v k1 k2) (fun j x y k1 k2 => ?_) q, hl]
        · simp
        · obtain ⟨v, j1, j2⟩ := h2.get k1
          obtain ⟨w, j3, j4⟩ := h4.get k2
          rw [j1] at j3; cases j3
          exact ⟨v, j2, j4⟩
theorem items_eq {n : Nat} {xs ys : List D} {vs ws : List V} {is js : List Value} {q : Nat → Bool} (I : L2.Inv X pins σ H s) (hs : HS g H S mu cs) (hK : X.K = g.K) (r1 : RpL g S mu vs xs) (r2 : RpL g S mu ws ys) (v1 : Vals vs is) (v2 : Vals ws js)
    (ih : ∀ (a b : D) (r : Bool), eqD n a b = some r → ∀ x y u v (A : Around), Rp g S mu x a → Rp g S mu y b → RelV x u → RelV y v → A.units + n < cLine → SeqAt.EqAt A s u v r)
    (hq : ∀ (j : Nat) x y, xs[j]? = some x → ys[j]? = some y → eqD n x y = some (q j)) (A : Around) (hu : A.units + n < cLine) (j : Nat) (j1 : j < is.toArray.size) (j2 : j < js.toArray.size) : SeqAt.EqAt A s is.toArray[j] js.toArray[j] (q j) := by
  have k1 : j < is.length := by simpa using j1
  have k2 : j < js.length := by simpa using j2
  obtain ⟨x, hx, rx⟩ := r1.getV (v := vs[j]'(by rw [v1.length]; exact k1)) (List.getElem?_eq_getElem _)
  obtain ⟨y, hy, ry⟩ := r2.getV (v := ws[j]'(by rw [v2.length]; exact k2)) (List.getElem?_eq_getElem _)
  obtain ⟨u, hu1, ru⟩ := v1.get (List.getElem?_eq_getElem (by rw [v1.length]; exact k1))
  obtain ⟨w, hw1, rw'⟩ := v2.get (List.getElem?_eq_getElem (by rw [v2.length]; exact k2))
  rw [List.getElem?_eq_getElem k1] at hu1
  rw [List.getElem?_eq_getElem k2] at hw1
  have e1 : is.toArray[j] = u := by simpa using hu1
  have e2 : js.toArray[j] = w := by simpa using hw1
  rw [e1, e2]
  exact ih x y _ (hq j x y hx hy) _ _ _ _ A rx ry ru rw' hu
theorem eqAt_D (I : L2.Inv X pins σ H s) (hs : HS g H S mu cs) (hK : X.K = g.K) : ∀ (n : Nat) (a b : D) (r : Bool), eqD n a b = some r → ∀ x y u v (A : Around), Rp g S mu x a → Rp g S mu y b → RelV x u → RelV y v → A.units + n < cLine → SeqAt.EqAt A s u v r
  | 0, _, _, _, e => nomatch e
  | n + 1, a, b, r, e => fun x y u v A rpa rpb ru rv hu => by
    have wx : Vw g H S mu x a := .inl rpa
    have wy : Vw g H S mu y b := .inl rpb
    have ih := eqAt_D I hs hK n
    have e0 := e
    cases a <;> cases b <;> first | (simp [eqD] at e; done) | skip
    · cases wx.non
      cases (show u = Value.none from ru)
      cases wy.non
      cases (show v = Value.none from rv)
      cases e
      exact SeqAt.EqAt.same _
    · cases wx.non
      cases (show u = Value.none from ru)
      cases wy.bl
      cases (show v = Value.bool _ from rv)
      cases e
      exact SeqAt.EqAt.none_bool _
    · cases wx.non
      cases (show u = Value.none from ru)
      cases wy.int
      obtain ⟨_, rfl⟩ := rv
      cases e
      exact SeqAt.EqAt.none_int _ _
    · cases wx.non
      cases (show u = Value.none from ru)
      cases wy.str
      obtain ⟨_, rfl⟩ := rv
      cases e
      exact SeqAt.EqAt.none_str _ _
    · cases wx.non
      cases (show u = Value.none from ru)
      obtain ⟨ma, mv, rfl, mq, mr⟩ := wy.lst hs
      cases (show v = Value.ref _ from rv)
      obtain ⟨mi, mw, mp, mz⟩ := I.list (hK.symm ▸ mq)
      have m := mp.isList
      cases e
      exact SeqAt.EqAt.none_list  m (by omega)
    · cases wx.non
      cases (show u = Value.none from ru)
      obtain ⟨ma, mv, rfl, mq, mr⟩ := wy.tup hs
      cases (show v = Value.ref _ from rv)
      obtain ⟨mi, mw, mp, mz⟩ := I.tuple (hK.symm ▸ mq)
      have m : s.heap.IsTuple ma mi.toArray := mp
      cases e
      exact SeqAt.EqAt.none_tuple  m (by omega)
    · cases wx.bl
      cases (show u = Value.bool _ from ru)
      cases wy.non
      cases (show v = Value.none from rv)
      cases e
      exact SeqAt.EqAt.bool_none _
    · cases wx.bl
      cases (show u = Value.bool _ from ru)
      cases wy.bl
      cases (show v = Value.bool _ from rv)
      cases e
      exact SeqAt.EqAt.bool_bool _ _
    · cases wx.bl
      cases (show u = Value.bool _ from ru)
      cases wy.int
      obtain ⟨_, rfl⟩ := rv
      cases e
      exact SeqAt.EqAt.bool_int _ _ _
    · cases wx.bl
      cases (show u = Value.bool _ from ru)
      cases wy.str
      obtain ⟨_, rfl⟩ := rv
      cases e
      exact SeqAt.EqAt.bool_str _ _ _
    · cases wx.bl
      cases (show u = Value.bool _ from ru)
      obtain ⟨ma, mv, rfl, mq, mr⟩ := wy.lst hs
      cases (show v = Value.ref _ from rv)
      obtain ⟨mi, mw, mp, mz⟩ := I.list (hK.symm ▸ mq)
      have m := mp.isList
      cases e
      exact SeqAt.EqAt.bool_list _ m (by omega)
    · cases wx.bl
      cases (show u = Value.bool _ from ru)
      obtain ⟨ma, mv, rfl, mq, mr⟩ := wy.tup hs
      cases (show v = Value.ref _ from rv)
      obtain ⟨mi, mw, mp, mz⟩ := I.tuple (hK.symm ▸ mq)
      have m : s.heap.IsTuple ma mi.toArray := mp
      cases e
      exact SeqAt.EqAt.bool_tuple _ m (by omega)
    · cases wx.int
      obtain ⟨_, rfl⟩ := ru
      cases wy.non
      cases (show v = Value.none from rv)
      cases e
      exact SeqAt.EqAt.int_none _ _
    · cases wx.int
      obtain ⟨_, rfl⟩ := ru
      cases wy.bl
      cases (show v = Value.bool _ from rv)
      cases e
      exact SeqAt.EqAt.int_bool _ _ _
    · cases wx.int
      obtain ⟨_, rfl⟩ := ru
      cases wy.int
      obtain ⟨_, rfl⟩ := rv
      cases e
      exact SeqAt.EqAt.int_int _ _ _ _
    · cases wx.int
      obtain ⟨_, rfl⟩ := ru
      cases wy.str
      obtain ⟨_, rfl⟩ := rv
      cases e
      exact SeqAt.EqAt.int_str _ _ _ _
    · cases wx.int
      obtain ⟨_, rfl⟩ := ru
      obtain ⟨ma, mv, rfl, mq, mr⟩ := wy.lst hs
      cases (show v = Value.ref _ from rv)
      obtain ⟨mi, mw, mp, mz⟩ := I.list (hK.symm ▸ mq)
      have m := mp.isList
      cases e
      exact SeqAt.EqAt.int_list _ _ m (by omega)
    · cases wx.int
      obtain ⟨_, rfl⟩ := ru
      obtain ⟨ma, mv, rfl, mq, mr⟩ := wy.tup hs
      cases (show v = Value.ref _ from rv)
      obtain ⟨mi, mw, mp, mz⟩ := I.tuple (hK.symm ▸ mq)
      have m : s.heap.IsTuple ma mi.toArray := mp
      cases e
      exact SeqAt.EqAt.int_tuple _ _ m (by omega)
    · cases wx.str
      obtain ⟨_, rfl⟩ := ru
      cases wy.non
      cases (show v = Value.none from rv)
      cases e
      exact SeqAt.EqAt.str_none _ _
    · cases wx.str
      obtain ⟨_, rfl⟩ := ru
      cases wy.bl
      cases (show v = Value.bool _ from rv)
      cases e
      exact SeqAt.EqAt.str_bool _ _ _
    · cases wx.str
      obtain ⟨_, rfl⟩ := ru
      cases wy.int
      obtain ⟨_, rfl⟩ := rv
      cases e
      exact SeqAt.EqAt.str_int _ _ _ _
    · cases wx.str
      obtain ⟨_, rfl⟩ := ru
      cases wy.str
      obtain ⟨_, rfl⟩ := rv
      cases e
      exact SeqAt.EqAt.str_str _ _ _ _
    · cases wx.str
      obtain ⟨_, rfl⟩ := ru
      obtain ⟨ma, mv, rfl, mq, mr⟩ := wy.lst hs
      cases (show v = Value.ref _ from rv)
      obtain ⟨mi, mw, mp, mz⟩ := I.list (hK.symm ▸ mq)
      have m := mp.isList
      cases e
      exact SeqAt.EqAt.str_list _ _ m (by omega)
    · cases wx.str
      obtain ⟨_, rfl⟩ := ru
      obtain ⟨ma, mv, rfl, mq, mr⟩ := wy.tup hs
      cases (show v = Value.ref _ from rv)
      obtain ⟨mi, mw, mp, mz⟩ := I.tuple (hK.symm ▸ mq)
      have m : s.heap.IsTuple ma mi.toArray := mp
      cases e
      exact SeqAt.EqAt.str_tuple _ _ m (by omega)
    · obtain ⟨ka, kv, rfl, kq, kr⟩ := wx.lst hs
      cases (show u = Value.ref _ from ru)
      obtain ⟨ki, kw, kp, kz⟩ := I.list (hK.symm ▸ kq)
      have k := kp.isList
      cases wy.non
      cases (show v = Value.none from rv)
      cases e
      exact SeqAt.EqAt.list_none  k (by omega)
    · obtain ⟨ka, kv, rfl, kq, kr⟩ := wx.lst hs
      cases (show u = Value.ref _ from ru)
      obtain ⟨ki, kw, kp, kz⟩ := I.list (hK.symm ▸ kq)
      have k := kp.isList
      cases wy.bl
      cases (show v = Value.bool _ from rv)
      cases e
      exact SeqAt.EqAt.list_bool _ k (by omega)
    · obtain ⟨ka, kv, rfl, kq, kr⟩ := wx.lst hs
      cases (show u = Value.ref _ from ru)
      obtain ⟨ki, kw, kp, kz⟩ := I.list (hK.symm ▸ kq)
      have k := kp.isList
      cases wy.int
      obtain ⟨_, rfl⟩ := rv
      cases e
      exact SeqAt.EqAt.list_int _ _ k (by omega)
    · obtain ⟨ka, kv, rfl, kq, kr⟩ := wx.lst hs
      cases (show u = Value.ref _ from ru)
      obtain ⟨ki, kw, kp, kz⟩ := I.list (hK.symm ▸ kq)
      have k := kp.isList
      cases wy.str
      obtain ⟨_, rfl⟩ := rv
      cases e
      exact SeqAt.EqAt.list_str _ _ k (by omega)
    · obtain ⟨ka, kv, rfl, kq, kr⟩ := wx.lst hs
      cases (show u = Value.ref _ from ru)
      obtain ⟨ki, kw, kp, kz⟩ := I.list (hK.symm ▸ kq)
      have k := kp.isList
      rename_i xs ys
      obtain ⟨ma, mv, rfl, mq, mr⟩ := wy.lst hs
      cases (show v = Value.ref _ from rv)
      obtain ⟨mi, mw, mp, mz⟩ := I.list (hK.symm ▸ mq)
      have m := mp.isList
      simp only [eqD] at e
      have z1 : ki.toArray.size = xs.length := (by rw [List.size_toArray]; exact kw.length.symm.trans kr.length)
      have z2 : mi.toArray.size = ys.length := (by rw [List.size_toArray]; exact mw.length.symm.trans mr.length)
      split at e
      · rename_i hl
        obtain ⟨q, q1, q2⟩ := eqZ_all e
        have he : ∀ j (j1 : j < ki.toArray.size) (j2 : j < mi.toArray.size), SeqAt.EqAt A.in1 s ki.toArray[j] mi.toArray[j] (q j) := fun j j1 j2 => items_eq I hs hK kr mr kw mw ih q1 A.in1 (by show A.units + 1 + n < cLine; omega) j j1 j2
        have er : r = (List.range ki.toArray.size).all q := by rw [q2, z1, ← hl, Nat.min_self]
        rw [er]
        by_cases hll : ka = ma
        · subst hll
          rw [← er]
          have := eqD_same I hs hK (n + 1) _ _ r e0 _ (rpa) (rpb)
          rw [this]
          exact SeqAt.EqAt.same _
        · exact SeqAt.EqAt.of_refs hll (SeqAt.RcAt.lists k m (by rw [z1, z2, hl]) (by omega) he)
      · rename_i hl
        cases e
        by_cases hll : ka = ma
        · subst hll
          exact absurd (eqD_same I hs hK (n + 1) _ _ false e0 _ rpa rpb) (by decide)
        · exact SeqAt.EqAt.of_refs hll (SeqAt.RcAt.lists_lengths k m (by rw [z1, z2]; simpa using hl) (by omega))
    · obtain ⟨ka, kv, rfl, kq, kr⟩ := wx.lst hs
      cases (show u = Value.ref _ from ru)
      obtain ⟨ki, kw, kp, kz⟩ := I.list (hK.symm ▸ kq)
      have k := kp.isList
      obtain ⟨ma, mv, rfl, mq, mr⟩ := wy.tup hs
      cases (show v = Value.ref _ from rv)
      obtain ⟨mi, mw, mp, mz⟩ := I.tuple (hK.symm ▸ mq)
      have m : s.heap.IsTuple ma mi.toArray := mp
      cases e
      exact SeqAt.EqAt.list_tuple k m (by omega)
    · obtain ⟨ka, kv, rfl, kq, kr⟩ := wx.tup hs
      cases (show u = Value.ref _ from ru)
      obtain ⟨ki, kw, kp, kz⟩ := I.tuple (hK.symm ▸ kq)
      have k : s.heap.IsTuple ka ki.toArray := kp
      cases wy.non
      cases (show v = Value.none from rv)
      cases e
      exact SeqAt.EqAt.tuple_none  k (by omega)
    · obtain ⟨ka, kv, rfl, kq, kr⟩ := wx.tup hs
      cases (show u = Value.ref _ from ru)
      obtain ⟨ki, kw, kp, kz⟩ := I.tuple (hK.symm ▸ kq)
      have k : s.heap.IsTuple ka ki.toArray := kp
      cases wy.bl
      cases (show v = Value.bool _ from rv)
      cases e
      exact SeqAt.EqAt.tuple_bool _ k (by omega)
    · obtain ⟨ka, kv, rfl, kq, kr⟩ := wx.tup hs
      cases (show u = Value.ref _ from ru)
      obtain ⟨ki, kw, kp, kz⟩ := I.tuple (hK.symm ▸ kq)
      have k : s.heap.IsTuple ka ki.toArray := kp
      cases wy.int
      obtain ⟨_, rfl⟩ := rv
      cases e
      exact SeqAt.EqAt.tuple_int _ _ k (by omega)
    · obtain ⟨ka, kv, rfl, kq, kr⟩ := wx.tup hs
      cases (show u = Value.ref _ from ru)
      obtain ⟨ki, kw, kp, kz⟩ := I.tuple (hK.symm ▸ kq)
      have k : s.heap.IsTuple ka ki.toArray := kp
      cases wy.str
      obtain ⟨_, rfl⟩ := rv
      cases e
      exact SeqAt.EqAt.tuple_str _ _ k (by omega)
    · obtain ⟨ka, kv, rfl, kq, kr⟩ := wx.tup hs
      cases (show u = Value.ref _ from ru)
      obtain ⟨ki, kw, kp, kz⟩ := I.tuple (hK.symm ▸ kq)
      have k : s.heap.IsTuple ka ki.toArray := kp
      obtain ⟨ma, mv, rfl, mq, mr⟩ := wy.lst hs
      cases (show v = Value.ref _ from rv)
      obtain ⟨mi, mw, mp, mz⟩ := I.list (hK.symm ▸ mq)
      have m := mp.isList
      cases e
      exact SeqAt.EqAt.tuple_list k m (by omega)
    · obtain ⟨ka, kv, rfl, kq, kr⟩ := wx.tup hs
      cases (show u = Value.ref _ from ru)
      obtain ⟨ki, kw, kp, kz⟩ := I.tuple (hK.symm ▸ kq)
      have k : s.heap.IsTuple ka ki.toArray := kp
      obtain ⟨ma, mv, rfl, mq, mr⟩ := wy.tup hs
      cases (show v = Value.ref _ from rv)
      obtain ⟨mi, mw, mp, mz⟩ := I.tuple (hK.symm ▸ mq)
      have m : s.heap.IsTuple ma mi.toArray := mp
      rename_i xs ys
      simp only [eqD] at e
      have z1 : ki.toArray.size = xs.length := (by rw [List.size_toArray]; exact kw.length.symm.trans kr.length)
      have z2 : mi.toArray.size = ys.length := (by rw [List.size_toArray]; exact mw.length.symm.trans mr.length)
      cases e1 : eqZ (eqD n) xs ys with
      | none => rw [e1] at e; cases e
      | some c =>
        rw [e1] at e
        obtain ⟨q, q1, q2⟩ := eqZ_all e1
        have he : ∀ j (j1 : j < ki.toArray.size) (j2 : j < mi.toArray.size), SeqAt.EqAt A.in1 s ki.toArray[j] mi.toArray[j] (q j) := fun j j1 j2 => items_eq I hs hK kr mr kw mw ih q1 A.in1 (by show A.units + 1 + n < cLine; omega) j j1 j2
        have er : r = ((List.range (min ki.toArray.size mi.toArray.size)).all q && ki.toArray.size == mi.toArray.size) := by rw [z1, z2, ← q2]; exact (Option.some.inj e).symm
        rw [er]
        by_cases hll : ka = ma
        · subst hll
          rw [← er]
          rw [eqD_same I hs hK (n + 1) _ _ r e0 _ rpa rpb]
          exact SeqAt.EqAt.same _
        · exact SeqAt.EqAt.of_refs hll (SeqAt.RcAt.tuples k m (by omega) he)
theorem rcAt_D (I : L2.Inv X pins σ H s) (hs : HS g H S mu cs) (hK : X.K = g.K) {n : Nat} {a b : D} {r : Bool} (e : eqD (n + 1) a b = some r) {x y u v} {A : Around} (wx : Vw g H S mu x a) (wy : Vw g H S mu y b) (ru : RelV x u) (rv : RelV y v) (hu : A.units + (n + 1) < cLine) : SeqAt.RcAt A s u v r := by
    have ih := eqAt_D I hs hK n
    cases a <;> cases b <;> first | (simp [eqD] at e; done) | skip
    · cases wx.non
      cases (show u = Value.none from ru)
      cases wy.non
      cases (show v = Value.none from rv)
      cases e
      exact SeqAt.RcAt.none_none
    · cases wx.non
      cases (show u = Value.none from ru)
      cases wy.bl
      cases (show v = Value.bool _ from rv)
      cases e
      exact SeqAt.RcAt.none_bool _
    · cases wx.non
      cases (show u = Value.none from ru)
      cases wy.int
      obtain ⟨_, rfl⟩ := rv
      cases e
      exact SeqAt.RcAt.none_int _ _
    · cases wx.non
      cases (show u = Value.none from ru)
      cases wy.str
      obtain ⟨_, rfl⟩ := rv
      cases e
      exact SeqAt.RcAt.none_str _ _
    · cases wx.non
      cases (show u = Value.none from ru)
      obtain ⟨ma, mv, rfl, mq, mr⟩ := wy.lst hs
      cases (show v = Value.ref _ from rv)
      obtain ⟨mi, mw, mp, mz⟩ := I.list (hK.symm ▸ mq)
      have m := mp.isList
      cases e
      exact SeqAt.RcAt.none_list  m (by omega)
    · cases wx.non
      cases (show u = Value.none from ru)
      obtain ⟨ma, mv, rfl, mq, mr⟩ := wy.tup hs
      cases (show v = Value.ref _ from rv)
      obtain ⟨mi, mw, mp, mz⟩ := I.tuple (hK.symm ▸ mq)
      have m : s.heap.IsTuple ma mi.toArray := mp
      cases e
      exact SeqAt.RcAt.none_tuple  m (by omega)
    · cases wx.bl
      cases (show u = Value.bool _ from ru)
      cases wy.non
      cases (show v = Value.none from rv)
      cases e
      exact SeqAt.RcAt.bool_none _
    · cases wx.bl
      cases (show u = Value.bool _ from ru)
      cases wy.bl
      cases (show v = Value.bool _ from rv)
      cases e
      exact SeqAt.RcAt.bool_bool _ _
    · cases wx.bl
      cases (show u = Value.bool _ from ru)
      cases wy.int
      obtain ⟨_, rfl⟩ := rv
      cases e
      exact SeqAt.RcAt.bool_int _ _ _
    · cases wx.bl
      cases (show u = Value.bool _ from ru)
      cases wy.str
      obtain ⟨_, rfl⟩ := rv
      cases e
      exact SeqAt.RcAt.bool_str _ _ _
    · cases wx.bl
      cases (show u = Value.bool _ from ru)
      obtain ⟨ma, mv, rfl, mq, mr⟩ := wy.lst hs
      cases (show v = Value.ref _ from rv)
      obtain ⟨mi, mw, mp, mz⟩ := I.list (hK.symm ▸ mq)
      have m := mp.isList
      cases e
      exact SeqAt.RcAt.bool_list _ m (by omega)
    · cases wx.bl
      cases (show u = Value.bool _ from ru)
      obtain ⟨ma, mv, rfl, mq, mr⟩ := wy.tup hs
      cases (show v = Value.ref _ from rv)
      obtain ⟨mi, mw, mp, mz⟩ := I.tuple (hK.symm ▸ mq)
      have m : s.heap.IsTuple ma mi.toArray := mp
      cases e
      exact SeqAt.RcAt.bool_tuple _ m (by omega)
    · cases wx.int
      obtain ⟨_, rfl⟩ := ru
      cases wy.non
      cases (show v = Value.none from rv)
      cases e
      exact SeqAt.RcAt.int_none _ _
    · cases wx.int
      obtain ⟨_, rfl⟩ := ru
      cases wy.bl
      cases (show v = Value.bool _ from rv)
      cases e
      exact SeqAt.RcAt.int_bool _ _ _
    · cases wx.int
      obtain ⟨_, rfl⟩ := ru
      cases wy.int
      obtain ⟨_, rfl⟩ := rv
      cases e
      exact SeqAt.RcAt.int_int _ _ _ _
    · cases wx.int
      obtain ⟨_, rfl⟩ := ru
      cases wy.str
      obtain ⟨_, rfl⟩ := rv
      cases e
      exact SeqAt.RcAt.int_str _ _ _ _
    · cases wx.int
      obtain ⟨_, rfl⟩ := ru
      obtain ⟨ma, mv, rfl, mq, mr⟩ := wy.lst hs
      cases (show v = Value.ref _ from rv)
      obtain ⟨mi, mw, mp, mz⟩ := I.list (hK.symm ▸ mq)
      have m := mp.isList
      cases e
      exact SeqAt.RcAt.int_list _ _ m (by omega)
    · cases wx.int
      obtain ⟨_, rfl⟩ := ru
      obtain ⟨ma, mv, rfl, mq, mr⟩ := wy.tup hs
      cases (show v = Value.ref _ from rv)
      obtain ⟨mi, mw, mp, mz⟩ := I.tuple (hK.symm ▸ mq)
      have m : s.heap.IsTuple ma mi.toArray := mp
      cases e
      exact SeqAt.RcAt.int_tuple _ _ m (by omega)
    · cases wx.str
      obtain ⟨_, rfl⟩ := ru
      cases wy.non
      cases (show v = Value.none from rv)
      cases e
      exact SeqAt.RcAt.str_none _ _
    · cases wx.str
      obtain ⟨_, rfl⟩ := ru
      cases wy.bl
      cases (show v = Value.bool _ from rv)
      cases e
      exact SeqAt.RcAt.str_bool _ _ _
    · cases wx.str
      obtain ⟨_, rfl⟩ := ru
      cases wy.int
      obtain ⟨_, rfl⟩ := rv
      cases e
      exact SeqAt.RcAt.str_int _ _ _ _
    · cases wx.str
      obtain ⟨_, rfl⟩ := ru
      cases wy.str
      obtain ⟨_, rfl⟩ := rv
      cases e
      exact SeqAt.RcAt.str_str _ _ _ _
    · cases wx.str
      obtain ⟨_, rfl⟩ := ru
      obtain ⟨ma, mv, rfl, mq, mr⟩ := wy.lst hs
      cases (show v = Value.ref _ from rv)
      obtain ⟨mi, mw, mp, mz⟩ := I.list (hK.symm ▸ mq)
      have m := mp.isList
      cases e
      exact SeqAt.RcAt.str_list _ _ m (by omega)
    · cases wx.str
      obtain ⟨_, rfl⟩ := ru
      obtain ⟨ma, mv, rfl, mq, mr⟩ := wy.tup hs
      cases (show v = Value.ref _ from rv)
      obtain ⟨mi, mw, mp, mz⟩ := I.tuple (hK.symm ▸ mq)
      have m : s.heap.IsTuple ma mi.toArray := mp
      cases e
      exact SeqAt.RcAt.str_tuple _ _ m (by omega)
    · obtain ⟨ka, kv, rfl, kq, kr⟩ := wx.lst hs
      cases (show u = Value.ref _ from ru)
      obtain ⟨ki, kw, kp, kz⟩ := I.list (hK.symm ▸ kq)
      have k := kp.isList
      cases wy.non
      cases (show v = Value.none from rv)
      cases e
      exact SeqAt.RcAt.list_none  k (by omega)
    · obtain ⟨ka, kv, rfl, kq, kr⟩ := wx.lst hs
      cases (show u = Value.ref _ from ru)
      obtain ⟨ki, kw, kp, kz⟩ := I.list (hK.symm ▸ kq)
      have k := kp.isList
      cases wy.bl
      cases (show v = Value.bool _ from rv)
      cases e
      exact SeqAt.RcAt.list_bool _ k (by omega)
    · obtain ⟨ka, kv, rfl, kq, kr⟩ := wx.lst hs
      cases (show u = Value.ref _ from ru)
      obtain ⟨ki, kw, kp, kz⟩ := I.list (hK.symm ▸ kq)
      have k := kp.isList
      cases wy.int
      obtain ⟨_, rfl⟩ := rv
      cases e
      exact SeqAt.RcAt.list_int _ _ k (by omega)
    · obtain ⟨ka, kv, rfl, kq, kr⟩ := wx.lst hs
      cases (show u = Value.ref _ from ru)
      obtain ⟨ki, kw, kp, kz⟩ := I.list (hK.symm ▸ kq)
      have k := kp.isList
      cases wy.str
      obtain ⟨_, rfl⟩ := rv
      cases e
      exact SeqAt.RcAt.list_str _ _ k (by omega)
    · obtain ⟨ka, kv, rfl, kq, kr⟩ := wx.lst hs
      cases (show u = Value.ref _ from ru)
      obtain ⟨ki, kw, kp, kz⟩ := I.list (hK.symm ▸ kq)
      have k := kp.isList
      rename_i xs ys
      obtain ⟨ma, mv, rfl, mq, mr⟩ := wy.lst hs
      cases (show v = Value.ref _ from rv)
      obtain ⟨mi, mw, mp, mz⟩ := I.list (hK.symm ▸ mq)
      have m := mp.isList
      simp only [eqD] at e
      have z1 : ki.toArray.size = xs.length := (by rw [List.size_toArray]; exact kw.length.symm.trans kr.length)
      have z2 : mi.toArray.size = ys.length := (by rw [List.size_toArray]; exact mw.length.symm.trans mr.length)
      split at e
      · rename_i hl
        obtain ⟨q, q1, q2⟩ := eqZ_all e
        have he : ∀ j (j1 : j < ki.toArray.size) (j2 : j < mi.toArray.size), SeqAt.EqAt A.in1 s ki.toArray[j] mi.toArray[j] (q j) := fun j j1 j2 => items_eq I hs hK kr mr kw mw ih q1 A.in1 (by show A.units + 1 + n < cLine; omega) j j1 j2
        have er : r = (List.range ki.toArray.size).all q := by rw [q2, z1, ← hl, Nat.min_self]
        rw [er]
        exact SeqAt.RcAt.lists k m (by rw [z1, z2, hl]) (by omega) he
      · rename_i hl
        cases e
        exact SeqAt.RcAt.lists_lengths k m (by rw [z1, z2]; simpa using hl) (by omega)
    · obtain ⟨ka, kv, rfl, kq, kr⟩ := wx.lst hs
      cases (show u = Value.ref _ from ru)
      obtain ⟨ki, kw, kp, kz⟩ := I.list (hK.symm ▸ kq)
      have k := kp.isList
      obtain ⟨ma, mv, rfl, mq, mr⟩ := wy.tup hs
      cases (show v = Value.ref _ from rv)
      obtain ⟨mi, mw, mp, mz⟩ := I.tuple (hK.symm ▸ mq)
      have m : s.heap.IsTuple ma mi.toArray := mp
      cases e
      exact SeqAt.RcAt.list_tuple k m (by omega)
    · obtain ⟨ka, kv, rfl, kq, kr⟩ := wx.tup hs
      cases (show u = Value.ref _ from ru)
      obtain ⟨ki, kw, kp, kz⟩ := I.tuple (hK.symm ▸ kq)
      have k : s.heap.IsTuple ka ki.toArray := kp
      cases wy.non
      cases (show v = Value.none from rv)
      cases e
      exact SeqAt.RcAt.tuple_none  k (by omega)
    · obtain ⟨ka, kv, rfl, kq, kr⟩ := wx.tup hs
      cases (show u = Value.ref _ from ru)
      obtain ⟨ki, kw, kp, kz⟩ := I.tuple (hK.symm ▸ kq)
      have k : s.heap.IsTuple ka ki.toArray := kp
      cases wy.bl
      cases (show v = Value.bool _ from rv)
      cases e
      exact SeqAt.RcAt.tuple_bool _ k (by omega)
    · obtain ⟨ka, kv, rfl, kq, kr⟩ := wx.tup hs
      cases (show u = Value.ref _ from ru)
      obtain ⟨ki, kw, kp, kz⟩ := I.tuple (hK.symm ▸ kq)
      have k : s.heap.IsTuple ka ki.toArray := kp
      cases wy.int
      obtain ⟨_, rfl⟩ := rv
      cases e
      exact SeqAt.RcAt.tuple_int _ _ k (by omega)
    · obtain ⟨ka, kv, rfl, kq, kr⟩ := wx.tup hs
      cases (show u = Value.ref _ from ru)
      obtain ⟨ki, kw, kp, kz⟩ := I.tuple (hK.symm ▸ kq)
      have k : s.heap.IsTuple ka ki.toArray := kp
      cases wy.str
      obtain ⟨_, rfl⟩ := rv
      cases e
      exact SeqAt.RcAt.tuple_str _ _ k (by omega)
    · obtain ⟨ka, kv, rfl, kq, kr⟩ := wx.tup hs
      cases (show u = Value.ref _ from ru)
      obtain ⟨ki, kw, kp, kz⟩ := I.tuple (hK.symm ▸ kq)
      have k : s.heap.IsTuple ka ki.toArray := kp
      obtain ⟨ma, mv, rfl, mq, mr⟩ := wy.lst hs
      cases (show v = Value.ref _ from rv)
      obtain ⟨mi, mw, mp, mz⟩ := I.list (hK.symm ▸ mq)
      have m := mp.isList
      cases e
      exact SeqAt.RcAt.tuple_list k m (by omega)
    · obtain ⟨ka, kv, rfl, kq, kr⟩ := wx.tup hs
      cases (show u = Value.ref _ from ru)
      obtain ⟨ki, kw, kp, kz⟩ := I.tuple (hK.symm ▸ kq)
      have k : s.heap.IsTuple ka ki.toArray := kp
      obtain ⟨ma, mv, rfl, mq, mr⟩ := wy.tup hs
      cases (show v = Value.ref _ from rv)
      obtain ⟨mi, mw, mp, mz⟩ := I.tuple (hK.symm ▸ mq)
      have m : s.heap.IsTuple ma mi.toArray := mp
      rename_i xs ys
      simp only [eqD] at e
      have z1 : ki.toArray.size = xs.length := (by rw [List.size_toArray]; exact kw.length.symm.trans kr.length)
      have z2 : mi.toArray.size = ys.length := (by rw [List.size_toArray]; exact mw.length.symm.trans mr.length)
      cases e1 : eqZ (eqD n) xs ys with
      | none => rw [e1] at e; cases e
      | some c =>
        rw [e1] at e
        obtain ⟨q, q1, q2⟩ := eqZ_all e1
        have he : ∀ j (j1 : j < ki.toArray.size) (j2 : j < mi.toArray.size), SeqAt.EqAt A.in1 s ki.toArray[j] mi.toArray[j] (q j) := fun j j1 j2 => items_eq I hs hK kr mr kw mw ih q1 A.in1 (by show A.units + 1 + n < cLine; omega) j j1 j2
        have er : r = ((List.range (min ki.toArray.size mi.toArray.size)).all q && ki.toArray.size == mi.toArray.size) := by rw [z1, z2, ← q2]; exact (Option.some.inj e).symm
        rw [er]
        exact SeqAt.RcAt.tuples k m (by omega) he
theorem rcNeAt_D (I : L2.Inv X pins σ H s) (hs : HS g H S mu cs) (hK : X.K = g.K) {n : Nat} {a b : D} {r : Bool} (e : eqD (n + 1) a b = some r) {x y u v} {A : Around} (wx : Vw g H S mu x a) (wy : Vw g H S mu y b) (ru : RelV x u) (rv : RelV y v) (hu : A.units + (n + 1) < cLine) : SeqAt.RcNeAt A s u v (!r) := by
    have ih := eqAt_D I hs hK n
    cases a <;> cases b <;> first | (simp [eqD] at e; done) | skip
    · cases wx.non
      cases (show u = Value.none from ru)
      cases wy.non
      cases (show v = Value.none from rv)
      cases e
      exact SeqAt.RcNeAt.none_none
    · cases wx.non
      cases (show u = Value.none from ru)
      cases wy.bl
      cases (show v = Value.bool _ from rv)
      cases e
      exact SeqAt.RcNeAt.none_bool _
    · cases wx.non
      cases (show u = Value.none from ru)
      cases wy.int
      obtain ⟨_, rfl⟩ := rv
      cases e
      exact SeqAt.RcNeAt.none_int _ _
    · cases wx.non
      cases (show u = Value.none from ru)
      cases wy.str
      obtain ⟨_, rfl⟩ := rv
      cases e
      exact SeqAt.RcNeAt.none_str _ _
    · cases wx.non
      cases (show u = Value.none from ru)
      obtain ⟨ma, mv, rfl, mq, mr⟩ := wy.lst hs
      cases (show v = Value.ref _ from rv)
      obtain ⟨mi, mw, mp, mz⟩ := I.list (hK.symm ▸ mq)
      have m := mp.isList
      cases e
      exact SeqAt.RcNeAt.none_list  m (by omega)
    · cases wx.non
      cases (show u = Value.none from ru)
      obtain ⟨ma, mv, rfl, mq, mr⟩ := wy.tup hs
      cases (show v = Value.ref _ from rv)
      obtain ⟨mi, mw, mp, mz⟩ := I.tuple (hK.symm ▸ mq)
      have m : s.heap.IsTuple ma mi.toArray := mp
      cases e
      exact SeqAt.RcNeAt.none_tuple  m (by omega)
    · cases wx.bl
      cases (show u = Value.bool _ from ru)
      cases wy.non
      cases (show v = Value.none from rv)
      cases e
      exact SeqAt.RcNeAt.bool_none _
    · cases wx.bl
      cases (show u = Value.bool _ from ru)
      cases wy.bl
      cases (show v = Value.bool _ from rv)
      cases e
      exact SeqAt.RcNeAt.bool_bool _ _
    · cases wx.bl
      cases (show u = Value.bool _ from ru)
      cases wy.int
      obtain ⟨_, rfl⟩ := rv
      cases e
      exact SeqAt.RcNeAt.bool_int _ _ _
    · cases wx.bl
      cases (show u = Value.bool _ from ru)
      cases wy.str
      obtain ⟨_, rfl⟩ := rv
      cases e
      exact SeqAt.RcNeAt.bool_str _ _ _
    · cases wx.bl
      cases (show u = Value.bool _ from ru)
      obtain ⟨ma, mv, rfl, mq, mr⟩ := wy.lst hs
      cases (show v = Value.ref _ from rv)
      obtain ⟨mi, mw, mp, mz⟩ := I.list (hK.symm ▸ mq)
      have m := mp.isList
      cases e
      exact SeqAt.RcNeAt.bool_list _ m (by omega)
    · cases wx.bl
      cases (show u = Value.bool _ from ru)
      obtain ⟨ma, mv, rfl, mq, mr⟩ := wy.tup hs
      cases (show v = Value.ref _ from rv)
      obtain ⟨mi, mw, mp, mz⟩ := I.tuple (hK.symm ▸ mq)
      have m : s.heap.IsTuple ma mi.toArray := mp
      cases e
      exact SeqAt.RcNeAt.bool_tuple _ m (by omega)
    · cases wx.int
      obtain ⟨_, rfl⟩ := ru
      cases wy.non
      cases (show v = Value.none from rv)
      cases e
      exact SeqAt.RcNeAt.int_none _ _
    · cases wx.int
      obtain ⟨_, rfl⟩ := ru
      cases wy.bl
      cases (show v = Value.bool _ from rv)
      cases e
      exact SeqAt.RcNeAt.int_bool _ _ _
    · cases wx.int
      obtain ⟨_, rfl⟩ := ru
      cases wy.int
      obtain ⟨_, rfl⟩ := rv
      cases e
      exact SeqAt.RcNeAt.int_int _ _ _ _
    · cases wx.int
      obtain ⟨_, rfl⟩ := ru
      cases wy.str
      obtain ⟨_, rfl⟩ := rv
      cases e
      exact SeqAt.RcNeAt.int_str _ _ _ _
    · cases wx.int
      obtain ⟨_, rfl⟩ := ru
      obtain ⟨ma, mv, rfl, mq, mr⟩ := wy.lst hs
      cases (show v = Value.ref _ from rv)
      obtain ⟨mi, mw, mp, mz⟩ := I.list (hK.symm ▸ mq)
      have m := mp.isList
      cases e
      exact SeqAt.RcNeAt.int_list _ _ m (by omega)
    · cases wx.int
      obtain ⟨_, rfl⟩ := ru
      obtain ⟨ma, mv, rfl, mq, mr⟩ := wy.tup hs
      cases (show v = Value.ref _ from rv)
      obtain ⟨mi, mw, mp, mz⟩ := I.tuple (hK.symm ▸ mq)
      have m : s.heap.IsTuple ma mi.toArray := mp
      cases e
      exact SeqAt.RcNeAt.int_tuple _ _ m (by omega)
    · cases wx.str
      obtain ⟨_, rfl⟩ := ru
      cases wy.non
      cases (show v = Value.none from rv)
      cases e
      exact SeqAt.RcNeAt.str_none _ _
    · cases wx.str
      obtain ⟨_, rfl⟩ := ru
      cases wy.bl
      cases (show v = Value.bool _ from rv)
      cases e
      exact SeqAt.RcNeAt.str_bool _ _ _
    · cases wx.str
      obtain ⟨_, rfl⟩ := ru
      cases wy.int
      obtain ⟨_, rfl⟩ := rv
      cases e
      exact SeqAt.RcNeAt.str_int _ _ _ _
    · cases wx.str
      obtain ⟨_, rfl⟩ := ru
      cases wy.str
      obtain ⟨_, rfl⟩ := rv
      cases e
      exact SeqAt.RcNeAt.str_str _ _ _ _
    · cases wx.str
      obtain ⟨_, rfl⟩ := ru
      obtain ⟨ma, mv, rfl, mq, mr⟩ := wy.lst hs
      cases (show v = Value.ref _ from rv)
      obtain ⟨mi, mw, mp, mz⟩ := I.list (hK.symm ▸ mq)
      have m := mp.isList
      cases e
      exact SeqAt.RcNeAt.str_list _ _ m (by omega)
    · cases wx.str
      obtain ⟨_, rfl⟩ := ru
      obtain ⟨ma, mv, rfl, mq, mr⟩ := wy.tup hs
      cases (show v = Value.ref _ from rv)
      obtain ⟨mi, mw, mp, mz⟩ := I.tuple (hK.symm ▸ mq)
      have m : s.heap.IsTuple ma mi.toArray := mp
      cases e
      exact SeqAt.RcNeAt.str_tuple _ _ m (by omega)
    · obtain ⟨ka, kv, rfl, kq, kr⟩ := wx.lst hs
      cases (show u = Value.ref _ from ru)
      obtain ⟨ki, kw, kp, kz⟩ := I.list (hK.symm ▸ kq)
      have k := kp.isList
      cases wy.non
      cases (show v = Value.none from rv)
      cases e
      exact SeqAt.RcNeAt.list_none  k (by omega)
    · obtain ⟨ka, kv, rfl, kq, kr⟩ := wx.lst hs
      cases (show u = Value.ref _ from ru)
      obtain ⟨ki, kw, kp, kz⟩ := I.list (hK.symm ▸ kq)
      have k := kp.isList
      cases wy.bl
      cases (show v = Value.bool _ from rv)
      cases e
      exact SeqAt.RcNeAt.list_bool _ k (by omega)
    · obtain ⟨ka, kv, rfl, kq, kr⟩ := wx.lst hs
      cases (show u = Value.ref _ from ru)
      obtain ⟨ki, kw, kp, kz⟩ := I.list (hK.symm ▸ kq)
      have k := kp.isList
      cases wy.int
      obtain ⟨_, rfl⟩ := rv
      cases e
      exact SeqAt.RcNeAt.list_int _ _ k (by omega)
    · obtain ⟨ka, kv, rfl, kq, kr⟩ := wx.lst hs
      cases (show u = Value.ref _ from ru)
      obtain ⟨ki, kw, kp, kz⟩ := I.list (hK.symm ▸ kq)
      have k := kp.isList
      cases wy.str
      obtain ⟨_, rfl⟩ := rv
      cases e
      exact SeqAt.RcNeAt.list_str _ _ k (by omega)
    · obtain ⟨ka, kv, rfl, kq, kr⟩ := wx.lst hs
      cases (show u = Value.ref _ from ru)
      obtain ⟨ki, kw, kp, kz⟩ := I.list (hK.symm ▸ kq)
      have k := kp.isList
      rename_i xs ys
      obtain ⟨ma, mv, rfl, mq, mr⟩ := wy.lst hs
      cases (show v = Value.ref _ from rv)
      obtain ⟨mi, mw, mp, mz⟩ := I.list (hK.symm ▸ mq)
      have m := mp.isList
      simp only [eqD] at e
      have z1 : ki.toArray.size = xs.length := (by rw [List.size_toArray]; exact kw.length.symm.trans kr.length)
      have z2 : mi.toArray.size = ys.length := (by rw [List.size_toArray]; exact mw.length.symm.trans mr.length)
      split at e
      · rename_i hl
        obtain ⟨q, q1, q2⟩ := eqZ_all e
        have he : ∀ j (j1 : j < ki.toArray.size) (j2 : j < mi.toArray.size), SeqAt.EqAt A.in1 s ki.toArray[j] mi.toArray[j] (q j) := fun j j1 j2 => items_eq I hs hK kr mr kw mw ih q1 A.in1 (by show A.units + 1 + n < cLine; omega) j j1 j2
        have er : r = (List.range ki.toArray.size).all q := by rw [q2, z1, ← hl, Nat.min_self]
        rw [er]
        exact SeqAt.RcNeAt.lists k m (by rw [z1, z2, hl]) (by omega) he
      · rename_i hl
        cases e
        exact SeqAt.RcNeAt.lists_lengths k m (by rw [z1, z2]; simpa using hl) (by omega)
    · obtain ⟨ka, kv, rfl, kq, kr⟩ := wx.lst hs
      cases (show u = Value.ref _ from ru)
      obtain ⟨ki, kw, kp, kz⟩ := I.list (hK.symm ▸ kq)
      have k := kp.isList
      obtain ⟨ma, mv, rfl, mq, mr⟩ := wy.tup hs
      cases (show v = Value.ref _ from rv)
      obtain ⟨mi, mw, mp, mz⟩ := I.tuple (hK.symm ▸ mq)
      have m : s.heap.IsTuple ma mi.toArray := mp
      cases e
      exact SeqAt.RcNeAt.list_tuple k m (by omega)
    · obtain ⟨ka, kv, rfl, kq, kr⟩ := wx.tup hs
      cases (show u = Value.ref _ from ru)
      obtain ⟨ki, kw, kp, kz⟩ := I.tuple (hK.symm ▸ kq)
      have k : s.heap.IsTuple ka ki.toArray := kp
      cases wy.non
      cases (show v = Value.none from rv)
      cases e
      exact SeqAt.RcNeAt.tuple_none  k (by omega)
    · obtain ⟨ka, kv, rfl, kq, kr⟩ := wx.tup hs
      cases (show u = Value.ref _ from ru)
      obtain ⟨ki, kw, kp, kz⟩ := I.tuple (hK.symm ▸ kq)
      have k : s.heap.IsTuple ka ki.toArray := kp
      cases wy.bl
      cases (show v = Value.bool _ from rv)
      cases e
      exact SeqAt.RcNeAt.tuple_bool _ k (by omega)
    · obtain ⟨ka, kv, rfl, kq, kr⟩ := wx.tup hs
      cases (show u = Value.ref _ from ru)
      obtain ⟨ki, kw, kp, kz⟩ := I.tuple (hK.symm ▸ kq)
      have k : s.heap.IsTuple ka ki.toArray := kp
      cases wy.int
      obtain ⟨_, rfl⟩ := rv
      cases e
      exact SeqAt.RcNeAt.tuple_int _ _ k (by omega)
    · obtain ⟨ka, kv, rfl, kq, kr⟩ := wx.tup hs
      cases (show u = Value.ref _ from ru)
      obtain ⟨ki, kw, kp, kz⟩ := I.tuple (hK.symm ▸ kq)
      have k : s.heap.IsTuple ka ki.toArray := kp
      cases wy.str
      obtain ⟨_, rfl⟩ := rv
      cases e
      exact SeqAt.RcNeAt.tuple_str _ _ k (by omega)
    · obtain ⟨ka, kv, rfl, kq, kr⟩ := wx.tup hs
      cases (show u = Value.ref _ from ru)
      obtain ⟨ki, kw, kp, kz⟩ := I.tuple (hK.symm ▸ kq)
      have k : s.heap.IsTuple ka ki.toArray := kp
      obtain ⟨ma, mv, rfl, mq, mr⟩ := wy.lst hs
      cases (show v = Value.ref _ from rv)
      obtain ⟨mi, mw, mp, mz⟩ := I.list (hK.symm ▸ mq)
      have m := mp.isList
      cases e
      exact SeqAt.RcNeAt.tuple_list k m (by omega)
    · obtain ⟨ka, kv, rfl, kq, kr⟩ := wx.tup hs
      cases (show u = Value.ref _ from ru)
      obtain ⟨ki, kw, kp, kz⟩ := I.tuple (hK.symm ▸ kq)
      have k : s.heap.IsTuple ka ki.toArray := kp
      obtain ⟨ma, mv, rfl, mq, mr⟩ := wy.tup hs
      cases (show v = Value.ref _ from rv)
      obtain ⟨mi, mw, mp, mz⟩ := I.tuple (hK.symm ▸ mq)
      have m : s.heap.IsTuple ma mi.toArray := mp
      rename_i xs ys
      simp only [eqD] at e
      have z1 : ki.toArray.size = xs.length := (by rw [List.size_toArray]; exact kw.length.symm.trans kr.length)
      have z2 : mi.toArray.size = ys.length := (by rw [List.size_toArray]; exact mw.length.symm.trans mr.length)
      cases e1 : eqZ (eqD n) xs ys with
      | none => rw [e1] at e; cases e
      | some c =>
        rw [e1] at e
        obtain ⟨q, q1, q2⟩ := eqZ_all e1
        have he : ∀ j (j1 : j < ki.toArray.size) (j2 : j < mi.toArray.size), SeqAt.EqAt A.in1 s ki.toArray[j] mi.toArray[j] (q j) := fun j j1 j2 => items_eq I hs hK kr mr kw mw ih q1 A.in1 (by show A.units + 1 + n < cLine; omega) j j1 j2
        have er : r = ((List.range (min ki.toArray.size mi.toArray.size)).all q && ki.toArray.size == mi.toArray.size) := by rw [z1, z2, ← q2]; exact (Option.some.inj e).symm
        rw [er]
        exact SeqAt.RcNeAt.tuples k m (by omega) he
end

/-- room for == -/
abbrev eqFuel : Nat := 60
@[simp] def opEq : F2 := fun a b => (eqD eqFuel a b).map fun r => (.bl r, false)
@[simp] def opNe : F2 := fun a b => (eqD eqFuel a b).map fun r => (.bl (!r), false)
def rEqG (g : Glob) (n : Bool) : R2 := fun x y H Q => ∃ S mu cs a b r, HS g H S mu cs ∧ Vw g H S mu x a ∧ Vw g H S mu y b ∧ eqD eqFuel a b = some r ∧ Q (.bl (n != r)) H
section
variable {g : Glob}
theorem op_eqG {X : Cx} (hK : X.K = g.K) (hu : X.A.units + 64 < cLine) : OpR X (compareOp .Eq) (rEqG g false) := by
  intro pins s σ H x y v u Q I rx ry ⟨S, mu, cs, a, b, r, hs, va, vb, e, q⟩
  exact rcAt_D I hs hK e va vb rx ry (by omega) X.prog X.w _ _ ⟨.bl r, H, I, rfl, by simpa using q⟩
theorem v_eqG : OpV g opEq (rEqG g false) := fun H S mu cs v w a b x Q hs va vb e k => by
  unfold opEq at e
  cases e1 : eqD eqFuel a b with
  | none => rw [e1] at e; cases e
  | some r =>
    rw [e1] at e
    cases e
    exact ⟨S, mu, cs, a, b, r, hs, va, vb, e1, by simpa using k _ _ _ (.val (.bl r))⟩
theorem s_eq : OpS g (compareOp .Eq) opEq := fun X hK hu => ⟨_, op_eqG hK hu, v_eqG⟩
theorem op_neG {X : Cx} (hK : X.K = g.K) (hu : X.A.units + 64 < cLine) : OpR X (compareOp .NotEq) (rEqG g true) := by
  intro pins s σ H x y v u Q I rx ry ⟨S, mu, cs, a, b, r, hs, va, vb, e, q⟩
  exact rcNeAt_D I hs hK e va vb rx ry (by omega) X.prog X.w _ _ ⟨.bl (!r), H, I, rfl, by simpa using q⟩
theorem v_neG : OpV g opNe (rEqG g true) := fun H S mu cs v w a b x Q hs va vb e k => by
  unfold opNe at e
  cases e1 : eqD eqFuel a b with
  | none => rw [e1] at e; cases e
  | some r =>
    rw [e1] at e
    cases e
    exact ⟨S, mu, cs, a, b, r, hs, va, vb, e1, by simpa using k _ _ _ (.val (.bl (!r)))⟩
theorem s_ne : OpS g (compareOp .NotEq) opNe := fun X hK hu => ⟨_, op_neG hK hu, v_neG⟩
end
end EL
namespace EL
open PySem PySem.Spec L2

/-! ### in, not in -/
def inL (d : D) : List D → Option Bool
  | [] => some false
  | x :: xs => match eqD eqFuel x d with
    | some a => (inL d xs).map fun b => a || b
    | none => none
def inS (x y : Str) : Bool := !(Builtin.Str.occurrences y x 0 y.length 1).isEmpty
@[simp] def opIn (n : Bool) : F2
  | .str x, .str y => some (.bl (n != inS x y), false)
  | d, .lst ds => (inL d ds).map fun r => (.bl (n != r), false)
  | d, .tup ds => (inL d ds).map fun r => (.bl (n != r), false)
  | _, _ => none
theorem inL_all {d : D} : ∀ {xs : List D} {r : Bool}, inL d xs = some r → (∀ x ∈ xs, ∃ b, eqD eqFuel x d = some b) ∧ (r = true ↔ ∃ x ∈ xs, eqD eqFuel x d = some true)
  | [], r, e => by cases e; simp
  | x :: xs, r, e => by
    unfold inL at e
    cases e1 : eqD eqFuel x d with
    | none => rw [e1] at e; cases e
    | some a =>
      rw [e1] at e
      cases e2 : inL d xs with
      | none => rw [e2] at e; cases e
      | some b =>
        rw [e2] at e
        cases e
        obtain ⟨h1, h2⟩ := inL_all e2
        refine ⟨fun y hy => ?_, ?_⟩
        · rcases List.mem_cons.mp hy with rfl | hy
          · exact ⟨a, e1⟩
          · exact h1 y hy
        · constructor
          · intro h
            cases a with
            | true => exact ⟨x, List.mem_cons_self, e1⟩
            | false =>
              obtain ⟨y, hy, q⟩ := h2.mp (by simpa using h)
              exact ⟨y, List.mem_cons_of_mem _ hy, q⟩
          · rintro ⟨y, hy, q⟩
            rcases List.mem_cons.mp hy with rfl | hy
            · rw [e1] at q
              cases q
              rfl
            · have hb := h2.mpr ⟨y, hy, q⟩
              show (a || b) = true
              rw [hb, Bool.or_true]
section
variable {g : Glob} {X : Cx} {pins : List (Addr × Obj)} {σ : SS} {H S : Hp} {s : Shared} {mu : List Addr} {cs : Cells}
/-- whether an item's object stands for one that is equal -/
theorem in_core (I : L2.Inv X pins σ H s) (hs : HS g H S mu cs) (hK : X.K = g.K) {xs : List D} {vs : List V} {is : List Value} {d : D} {v : V} {u : Value} {r : Bool} (r1 : RpL g S mu vs xs) (v1 : Vals vs is) (rd : Rp g S mu v d) (ru : RelV v u) (e : inL d xs = some r) {A : Around} (hu : A.units + eqFuel < cLine) :
    ∃ f : Value → Bool, (∀ y ∈ is, SeqAt.EqAt A s y u (f y)) ∧ is.any f = r := by
  classical
  obtain ⟨h1, h2⟩ := inL_all e
  have at_ : ∀ y ∈ is, ∃ x w, x ∈ xs ∧ Rp g S mu w x ∧ RelV w y := fun y hy => by
    obtain ⟨j, hj⟩ := List.mem_iff_getElem?.mp hy
    have hl : j < vs.length := by rw [v1.length]; exact (List.getElem?_eq_some_iff.mp hj).1
    obtain ⟨x, hx, rx⟩ := r1.getV (List.getElem?_eq_getElem hl)
    obtain ⟨y', hy', ry⟩ := v1.get (List.getElem?_eq_getElem hl)
    rw [hj] at hy'
    cases hy'
    exact ⟨x, _, List.mem_of_getElem? hx, rx, ry⟩
  refine ⟨fun y => decide (∃ x w, x ∈ xs ∧ Rp g S mu w x ∧ RelV w y ∧ eqD eqFuel x d = some true), fun y hy => ?_, ?_⟩
  · by_cases hc : ∃ x w, x ∈ xs ∧ Rp g S mu w x ∧ RelV w y ∧ eqD eqFuel x d = some true
    · show SeqAt.EqAt A s y u (decide (∃ x w, x ∈ xs ∧ Rp g S mu w x ∧ RelV w y ∧ eqD eqFuel x d = some true))
      rw [decide_eq_true hc]
      obtain ⟨x, w, _, rx, rw', ex⟩ := hc
      exact eqAt_D I hs hK _ x d true ex w v y u A rx rd rw' ru hu
    · show SeqAt.EqAt A s y u (decide (∃ x w, x ∈ xs ∧ Rp g S mu w x ∧ RelV w y ∧ eqD eqFuel x d = some true))
      rw [decide_eq_false hc]
      obtain ⟨x, w, hx, rx, rw'⟩ := at_ y hy
      obtain ⟨b, hb⟩ := h1 x hx
      cases b with
      | true => exact (hc ⟨x, w, hx, rx, rw', hb⟩).elim
      | false => exact eqAt_D I hs hK _ x d false hb w v y u A rx rd rw' ru hu
  · rw [Bool.eq_iff_iff, h2, List.any_eq_true]
    constructor
    · rintro ⟨y, hy, hc⟩
      obtain ⟨x, w, hx, _, _, ex⟩ := of_decide_eq_true hc
      exact ⟨x, hx, ex⟩
    · rintro ⟨x, hx, ex⟩
      obtain ⟨j, hj⟩ := List.mem_iff_getElem?.mp hx
      obtain ⟨w, hw, rx⟩ := r1.get hj
      obtain ⟨y, hy, ry⟩ := v1.get hw
      exact ⟨y, List.mem_of_getElem? hy, decide_eq_true ⟨x, w, hx, rx, ry, ex⟩⟩
end
def rInG (g : Glob) (n : Bool) : R2 := fun x y H Q => ∃ S mu cs d ds r, HS g H S mu cs ∧ Rp g S mu x d ∧ (Vw g H S mu y (.lst ds) ∨ Vw g H S mu y (.tup ds)) ∧ inL d ds = some r ∧ Q (.bl (n != r)) H
section
variable {g : Glob}
theorem op_inG {X : Cx} (hK : X.K = g.K) (hu : X.A.units + 64 < cLine) : OpR X (compareOp .In) (rInG g false) := by
  intro pins s σ H x y v u Q I rx ry ⟨S, mu, cs, d, ds, r, hs, rd, w, e, q⟩
  have hu1 : X.A.in1.units + eqFuel < cLine := by show X.A.units + 1 + 60 < cLine; omega
  rcases w with w | w
  · obtain ⟨a, vs, rfl, h1, h2⟩ := w.lst hs
    cases ry
    obtain ⟨is, rv, pl, _⟩ := I.list (hK.symm ▸ h1)
    obtain ⟨f, f1, f2⟩ := in_core I hs hK h2 rv rd rx e hu1
    exact SeqAt.in_listAt f pl.isList (fun z hz => f1 z (by simpa using hz)) ⟨.bl _, H, I, rfl, by simpa [f2] using q⟩
  · obtain ⟨a, vs, rfl, h1, h2⟩ := w.tup hs
    cases ry
    obtain ⟨is, rv, pl, _⟩ := I.tuple (hK.symm ▸ h1)
    obtain ⟨f, f1, f2⟩ := in_core I hs hK h2 rv rd rx e hu1
    exact SeqAt.in_tupleAt f pl (fun z hz => f1 z (by simpa using hz)) ⟨.bl _, H, I, rfl, by simpa [f2] using q⟩
theorem op_ninG {X : Cx} (hK : X.K = g.K) (hu : X.A.units + 64 < cLine) : OpR X (compareOp .NotIn) (rInG g true) := by
  intro pins s σ H x y v u Q I rx ry ⟨S, mu, cs, d, ds, r, hs, rd, w, e, q⟩
  have hu1 : X.A.in1.units + eqFuel < cLine := by show X.A.units + 1 + 60 < cLine; omega
  rcases w with w | w
  · obtain ⟨a, vs, rfl, h1, h2⟩ := w.lst hs
    cases ry
    obtain ⟨is, rv, pl, _⟩ := I.list (hK.symm ▸ h1)
    obtain ⟨f, f1, f2⟩ := in_core I hs hK h2 rv rd rx e hu1
    exact SeqAt.notIn_listAt f pl.isList (fun z hz => f1 z (by simpa using hz)) ⟨.bl _, H, I, rfl, by simpa [f2] using q⟩
  · obtain ⟨a, vs, rfl, h1, h2⟩ := w.tup hs
    cases ry
    obtain ⟨is, rv, pl, _⟩ := I.tuple (hK.symm ▸ h1)
    obtain ⟨f, f1, f2⟩ := in_core I hs hK h2 rv rd rx e hu1
    exact SeqAt.notIn_tupleAt f pl (fun z hz => f1 z (by simpa using hz)) ⟨.bl _, H, I, rfl, by simpa [f2] using q⟩
end

/-! ### operations where the left one is frozen -/
/-- as OpOk, the left operand frozen -/
def OpOkL (g : Glob) (f : OpF2) (r : R2) : Prop := ∀ (H S : Hp) (mu : List Addr) (cs : Cells) (v w : V) (a b : D) (x : D × Bool) (Q : VK), HS g H S mu cs → Rp g S mu v a → Vo g H S mu w b → f cs a b = some x →
  (∀ u H' S', OpRes g H S mu H' S' u x.1 x.2 → Q u H') → r v w H Q
/-- the right one's content alone is looked up -/
@[simp] def drR (f : F2) : OpF2 := fun cs a b => (dr cs b).bind fun y => f a y
theorem v_in {g : Glob} {n : Bool} : OpOkL g (drR (opIn n)) (fun x y H Q => rInG g n x y H Q ∨ ∃ i j, x = .str i ∧ y = .str j ∧ Q (.bl (n != inS i j)) H) := fun H S mu cs v w a b x Q hs va vb e k => by
  unfold drR at e
  cases e2 : dr cs b with
  | none => rw [e2] at e; cases e
  | some b' =>
    rw [e2] at e
    have wb := vb.dr hs e2
    have e : opIn n a b' = some x := e
    cases b' <;> first | (simp [opIn] at e; done) | skip
    · cases a <;> first | (simp [opIn] at e; done) | skip
      cases e
      refine .inr ⟨_, _, Vw.str (H := H) (.inl va), wb.str, k _ _ _ (.val (.bl _))⟩
    · rename_i ds e0
      have e' : (inL a ds).map (fun r => (D.bl (n != r), false)) = some x := by
        cases a <;> exact e
      cases e1 : inL a ds with
      | none => rw [e1] at e'; cases e'
      | some r =>
        rw [e1] at e'
        cases e'
        exact .inl ⟨S, mu, cs, a, ds, r, hs, va, .inl wb, e1, k _ _ _ (.val (.bl _))⟩
    · rename_i ds e0
      have e' : (inL a ds).map (fun r => (D.bl (n != r), false)) = some x := by
        cases a <;> exact e
      cases e1 : inL a ds with
      | none => rw [e1] at e'; cases e'
      | some r =>
        rw [e1] at e'
        cases e'
        exact .inl ⟨S, mu, cs, a, ds, r, hs, va, .inr wb, e1, k _ _ _ (.val (.bl _))⟩
theorem op_in_all {g : Glob} {X : Cx} (hK : X.K = g.K) (hu : X.A.units + 64 < cLine) : OpR X (compareOp .In) (fun x y H Q => rInG g false x y H Q ∨ ∃ i j, x = .str i ∧ y = .str j ∧ Q (.bl (false != inS i j)) H) := by
  refine (op_inG hK hu).or fun pins s σ H x y v u Q I rx ry ⟨i, j, e1, e2, q⟩ => op_in_str pins s σ H x y v u Q I rx ry ⟨i, j, e1, e2, ?_⟩
  simpa [inS] using q
theorem op_nin_all {g : Glob} {X : Cx} (hK : X.K = g.K) (hu : X.A.units + 64 < cLine) : OpR X (compareOp .NotIn) (fun x y H Q => rInG g true x y H Q ∨ ∃ i j, x = .str i ∧ y = .str j ∧ Q (.bl (true != inS i j)) H) := by
  refine (op_ninG hK hu).or fun pins s σ H x y v u Q I rx ry ⟨i, j, e1, e2, q⟩ => op_notIn_str pins s σ H x y v u Q I rx ry ⟨i, j, e1, e2, ?_⟩
  simpa [inS] using q
section
variable {g : Glob} {F : Ent} {W : WX}
theorem iOp2L {f : OpF2} {r : R2} {ma mb : M D} (h : OpOkL g f r) (σ : SS) (H : Hp) (Q : VK) (q : rdE g F W (mOp2 f ma mb) σ H Q) : tOp r (rdZ g F W ma) (rdO g F W mb) σ H Q :=
  rd_bind q fun a env1 cs1 v H1 S1 mu1 va r1 => (r1.bind fun b env2 cs2 w H2 S2 mu2 gr2 vb r2 => by
    obtain ⟨y, e, k⟩ := r2.cs
    exact h _ _ _ _ _ _ _ _ _ _ r2.1.hs (va.mono gr2.mo) vb e k).rd
end

/-! ### items and slices -/
@[simp] def opIdx : F2
  | .lst ds, .int i => (atI ds i).map fun d => (d, false)
  | .tup ds, .int i => (atI ds i).map fun d => (d, false)
  | .str x, .int i => if x.length ≤ sizeLine then (atI x.cps.toList i).map fun c => (.str ⟨#[c]⟩, false) else none
  | _, _ => none
theorem RpL.atI {g : Glob} {S mu} {vs : List V} {ds : List D} {i : Int} {d : D} (r : RpL g S mu vs ds) (e : atI ds i = some d) : ∃ v, L2.atI vs i = some v ∧ Rp g S mu v d := by
  unfold L2.atI at e ⊢
  rw [r.length]
  cases q : ixN ds.length i with
  | none => rw [q] at e; cases e
  | some j =>
    rw [q] at e
    obtain ⟨v, h1, h2⟩ := r.get e
    exact ⟨v, h1, h2⟩
theorem v_idx {g : Glob} : OpV g opIdx (rIx g.K) := fun H S mu cs v w a b x Q hs va vb e k => by
  cases a <;> cases b <;> first | (simp [opIdx] at e; done) | skip
  · simp only [opIdx] at e
    split at e
    · rename_i hl
      rename_i z i
      cases q : atI z.cps.toList i with
      | none => rw [q] at e; cases e
      | some c =>
        rw [q] at e
        cases e
        exact .inr (.inr ⟨_, _, c, va.str, vb.int, hl, q, k _ _ _ (.val (.str _))⟩)
    · cases e
  · simp only [opIdx] at e
    rename_i ds i
    cases q : atI ds i with
    | none => rw [q] at e; cases e
    | some d =>
      rw [q] at e
      cases e
      obtain ⟨p, vs, rfl, h1, h2⟩ := va.lst hs
      obtain ⟨z, h3, h4⟩ := h2.atI q
      exact .inl ⟨p, vs, i, z, rfl, vb.int, h1, h3, k _ _ _ (.val h4)⟩
  · simp only [opIdx] at e
    rename_i ds i
    cases q : atI ds i with
    | none => rw [q] at e; cases e
    | some d =>
      rw [q] at e
      cases e
      obtain ⟨p, vs, rfl, h1, h2⟩ := va.tup hs
      obtain ⟨z, h3, h4⟩ := h2.atI q
      exact .inr (.inl ⟨p, vs, i, z, rfl, vb.int, h1, h3, k _ _ _ (.val h4)⟩)
theorem plainIx_ok {b : Expr} (h : ∀ l u s p, b ≠ .Slice l u s p) : PlainIx b := by
  intro o i
  cases b <;> first | rfl | exact absurd rfl (h _ _ _ _)
section
variable {g : Glob} {F : Ent} {W : WX} {X : Cx} {a b : Expr} {pos : Pos}
theorem sIdx {ma mb : M D} (hK : X.K = g.K) (ha : PE X a (rdO g F W ma)) (hb : PE X b (rdO g F W mb)) (h : ∀ l u s p, b ≠ .Slice l u s p) : PE X (.Subscript a b pos) (rdE g F W (mOp2 (dr2 opIdx) ma mb)) :=
  PE.imp (pe_ix ix_seq ha hb (plainIx_ok h)) (by rw [hK]; exact iOp2 (OpV.ok v_idx))
end
/-- xs[lo:hi] -/
def cutD (xs : List D) (lo hi : Option Int) : List D := (xs.drop (HT.sIx xs.length 0 lo)).take (HT.sIx xs.length xs.length hi - HT.sIx xs.length 0 lo)
theorem RpL.cut {g : Glob} {S mu} {vs : List V} {ds : List D} (r : RpL g S mu vs ds) (lo hi : Option Int) : RpL g S mu (cutV vs lo hi) (cutD ds lo hi) := by
  unfold cutV cutD
  rw [r.length]
  exact (r.drop _).take _
@[simp] def slD (d : D) (lo hi : Option Int) : Option (D × Bool) := match d with
  | .lst ds => some (.lst (cutD ds lo hi), true)
  | .tup ds => some (.tup (cutD ds lo hi), false)
  | .str x => if x.length ≤ sizeLine then some (.str (cutS x lo hi), false) else none
  | _ => none
end EL
namespace EL
open PySem PySem.Spec L2

section
variable {g : Glob} {F : Ent} {W : WX} {X : Cx} {a b c e : Expr} {es : List Expr} {pos : Pos}
/-! ### operators -/
theorem sBin {op : Operator} {f : F2} {ma mb : M D} (hK : X.K = g.K) (hu : X.A.units + 64 < cLine) (h : OpS g (binaryOp op) f) (ha : PE X a (rdO g F W ma)) (hb : PE X b (rdO g F W mb)) : PE X (.BinOp a op b pos) (rdE g F W (mOp2 (dr2 f) ma mb)) := by
  obtain ⟨r, h1, h2⟩ := h X hK hu
  exact PE.imp (pe_op h1 ha hb) (iOp2 h2.ok)
theorem sCmp {op : CmpOp} {f : F2} {ma mb : M D} (hK : X.K = g.K) (hu : X.A.units + 64 < cLine) (h : OpS g (compareOp op) f) (ha : PE X a (rdO g F W ma)) (hb : PE X b (rdO g F W mb)) (hm : behindInMarks op b = false) : PE X (.Compare a [op] [b] pos) (rdE g F W (mOp2 (dr2 f) ma mb)) := by
  obtain ⟨r, h1, h2⟩ := h X hK hu
  exact PE.imp (pe_cmpR h1 ha hb hm) (iOp2 h2.ok)
theorem sCmpT {op : CmpOp} {f : F2} {ma mb : M D} (hK : X.K = g.K) (hu : X.A.units + 64 < cLine) (h : OpS g (compareOp op) f) (ha : PE X a (rdO g F W ma)) (hb : PE X b (rdO g F W mb)) (hm : behindInMarks op b = false) : PT X (.Compare a [op] [b] pos) (rdT g F W (mBl (mOp2 (dr2 f) ma mb))) := by
  obtain ⟨r, h1, h2⟩ := h X hK hu
  exact PT.imp (pt_cmpR h1 ha hb hm) fun σ H Q q => iOp2 h2.ok σ H _ (iBl q)
/-- in, not in -/
theorem sIn {ma mb : M D} (hK : X.K = g.K) (hu : X.A.units + 64 < cLine) (ha : PE X a (rdZ g F W ma)) (hb : PE X b (rdO g F W mb)) (hm : behindInMarks .In b = false) : PE X (.Compare a [.In] [b] pos) (rdE g F W (mOp2 (drR (opIn false)) ma mb)) :=
  PE.imp (pe_cmpR (op_in_all hK hu) ha hb hm) (iOp2L v_in)
theorem sInT {ma mb : M D} (hK : X.K = g.K) (hu : X.A.units + 64 < cLine) (ha : PE X a (rdZ g F W ma)) (hb : PE X b (rdO g F W mb)) (hm : behindInMarks .In b = false) : PT X (.Compare a [.In] [b] pos) (rdT g F W (mBl (mOp2 (drR (opIn false)) ma mb))) :=
  PT.imp (pt_cmpR (op_in_all hK hu) ha hb hm) fun σ H Q q => iOp2L v_in σ H _ (iBl q)
theorem sNin {ma mb : M D} (hK : X.K = g.K) (hu : X.A.units + 64 < cLine) (ha : PE X a (rdZ g F W ma)) (hb : PE X b (rdO g F W mb)) (hm : behindInMarks .NotIn b = false) : PE X (.Compare a [.NotIn] [b] pos) (rdE g F W (mOp2 (drR (opIn true)) ma mb)) :=
  PE.imp (pe_cmpR (op_nin_all hK hu) ha hb hm) (iOp2L v_in)
theorem sNinT {ma mb : M D} (hK : X.K = g.K) (hu : X.A.units + 64 < cLine) (ha : PE X a (rdZ g F W ma)) (hb : PE X b (rdO g F W mb)) (hm : behindInMarks .NotIn b = false) : PT X (.Compare a [.NotIn] [b] pos) (rdT g F W (mBl (mOp2 (drR (opIn true)) ma mb))) :=
  PT.imp (pt_cmpR (op_nin_all hK hu) ha hb hm) fun σ H Q q => iOp2L v_in σ H _ (iBl q)
/-- a op b op' c -/
def mChain (f f' : OpF2) (ma mb mc : M D) : M (D × Bool) := ma.bind fun x => mb.bind fun y => (mCs fun cs => (f cs x y).bind blD).bind fun k =>
  if k then mc.bind fun z => mCs fun cs => f' cs y z else M.pure (.bl false, false)
theorem RA.csO {α' β' : Type} {T' : SS → Env → Hp → Hp → List Addr → β' → α' → Prop} {f : Cells → Option (D × Bool)} {kk : Bool → M α'} {σ : SS} {H S : Hp} {mu : List Addr} {env : Env} {cs : Cells} {Q : β' → Hp → Prop}
    (h : RA g F W T' ((mCs fun cs => (f cs).bind blD).bind kk) σ H S mu env cs Q) : ∃ y k, f cs = some y ∧ blD y = some k ∧ RA g F W T' (kk k) σ H S mu env cs Q := by
  obtain ⟨k, e, r⟩ := h.csB
  cases e1 : f cs with
  | none => rw [e1] at e; cases e
  | some y =>
    rw [e1] at e
    exact ⟨y, k, rfl, e, r⟩
theorem RA.up {α β : Type} {T : SS → Env → Hp → Hp → List Addr → β → α → Prop} {m : M α} {σ : SS} {H S H' S' : Hp} {mu : List Addr} {env : Env} {cs : Cells} {Q : β → Hp → Prop} (h : RA g F W T m σ H S mu env cs Q) (u : Up H S H' S') : RA g F W T m σ H' S' mu env cs Q :=
  ⟨u.rel h.1, h.2.on fun a e c k v H2 S2 mu2 gr => k v H2 S2 mu2 (u.gr.trans gr)⟩
theorem iChain {f f' : OpF2} {r r' : R2} {ma mb mc : M D} (h : OpOk g f r) (h' : OpOk g f' r') (σ : SS) (H : Hp) (Q : VK) (q : rdE g F W (mChain f f' ma mb mc) σ H Q) : tChain r r' (rdO g F W ma) (rdO g F W mb) (rdO g F W mc) σ H Q :=
  rd_bind q fun x env1 cs1 v H1 S1 mu1 va r1 => (r1.bind fun y env2 cs2 w H2 S2 mu2 gr2 vb r2 => by
    obtain ⟨z, k, e, e2, r3⟩ := r2.csO
    refine h _ _ _ _ _ _ _ _ _ _ r2.1.hs (Vo.keep va gr2 r1.1.hs) vb e fun u H3 S3 or => ?_
    obtain ⟨rl, gr3, res⟩ := or.rel r2.1
    refine ⟨k, res_bl res e2, ?_⟩
    have r4 := r3.up or.up
    cases k with
    | false =>
      rw [if_neg (by decide)] at r4
      rw [if_neg (by decide)]
      exact RA.pure (T := TRes g F) r4 (Rp.bl false)
    | true =>
      rw [if_pos rfl] at r4
      rw [if_pos rfl]
      exact (r4.bind fun t env5 cs5 w5 H5 S5 mu5 gr5 vc r5 => by
        obtain ⟨y5, e5, k5⟩ := r5.cs
        exact h' _ _ _ _ _ _ _ _ _ _ r5.1.hs (Vo.keep vb (gr3.trans gr5) r2.1.hs) vc e5 k5).rd).rd
theorem sChain {op op' : CmpOp} {f f' : F2} {ma mb mc : M D} (hK : X.K = g.K) (hu : X.A.units + 64 < cLine) (h : OpS g (compareOp op) f) (h' : OpS g (compareOp op') f') (ha : PE X a (rdO g F W ma)) (hb : PE X b (rdO g F W mb)) (hc : PE X c (rdO g F W mc)) (hm : lastMarks [op, op'] [b, c] = false) :
    PE X (.Compare a [op, op'] [b, c] pos) (rdE g F W (mChain (dr2 f) (dr2 f') ma mb mc)) := by
  obtain ⟨r, h1, h2⟩ := h X hK hu
  obtain ⟨r', h3, h4⟩ := h' X hK hu
  exact PE.imp (pe_chain h1 h3 ha hb hc hm) (iChain h2.ok h4.ok)
theorem sChainT {op op' : CmpOp} {f f' : F2} {ma mb mc : M D} (hK : X.K = g.K) (hu : X.A.units + 64 < cLine) (h : OpS g (compareOp op) f) (h' : OpS g (compareOp op') f') (ha : PE X a (rdO g F W ma)) (hb : PE X b (rdO g F W mb)) (hc : PE X c (rdO g F W mc)) (hm : lastMarks [op, op'] [b, c] = false) :
    PT X (.Compare a [op, op'] [b, c] pos) (rdT g F W (mBl (mChain (dr2 f) (dr2 f') ma mb mc))) := by
  obtain ⟨r, h1, h2⟩ := h X hK hu
  obtain ⟨r', h3, h4⟩ := h' X hK hu
  exact PT.imp (pt_chain h1 h3 ha hb hc hm) fun σ H Q q => iChain h2.ok h4.ok σ H _ (iBl q)

/-! ### operands in a row -/
inductive VoL (g : Glob) (H S : Hp) (mu : List Addr) : List V → List D → Prop
  | nil : VoL g H S mu [] []
  | cons {v : V} {vs : List V} {d : D} {ds : List D} : Vo g H S mu v d → VoL g H S mu vs ds → VoL g H S mu (v :: vs) (d :: ds)
abbrev TVos (g : Glob) : SS → Env → Hp → Hp → List Addr → List V → List D → Prop := fun _ _ H S mu v d => VoL g H S mu v d
abbrev rdOs (g : Glob) (F : Ent) (W : WX) (m : M (List D)) : TA := rd g F W (TVos g) m
theorem sONil : PA X [] (rdOs g F W (M.pure [])) := PA.imp pa_nil fun σ H Q ⟨S, mu, env, cs, ra⟩ => ra.pure .nil
theorem sOCons {ma : M D} {mr : M (List D)} (h1 : PE X e (rdO g F W ma)) (h2 : PA X es (rdOs g F W mr)) (hs : ∀ x p, e ≠ .Starred x p) : PA X (e :: es) (rdOs g F W (mCons ma mr)) :=
  PA.imp (pa_cons h1 h2 (starEach_cons hs)) fun σ H Q q => rd_bind q fun d env1 cs1 v H1 S1 mu1 t r1 =>
    (r1.bind fun ds env2 cs2 vs H2 S2 mu2 gr t2 r2 => r2.pure (.cons (Vo.keep t gr r1.1.hs) t2)).rd
abbrev OpFn := Cells → List D → Option (D × Bool)
def OpOkN (g : Glob) (f : OpFn) (r : List V → Hp → VK → Prop) : Prop := ∀ (H S : Hp) (mu : List Addr) (cs : Cells) (vs : List V) (ds : List D) (x : D × Bool) (Q : VK), HS g H S mu cs → VoL g H S mu vs ds → f cs ds = some x →
  (∀ u H' S', OpRes g H S mu H' S' u x.1 x.2 → Q u H') → r vs H Q
def mOpN (f : OpFn) (ma : M (List D)) : M (D × Bool) := ma.bind fun ds => mCs fun cs => f cs ds
theorem iOpN {f : OpFn} {r : List V → Hp → VK → Prop} {ma : M (List D)} (h : OpOkN g f r) (σ : SS) (H : Hp) (Q : VK) (q : rdE g F W (mOpN f ma) σ H Q) : tCB r (rdOs g F W ma) σ H Q :=
  rd_bind q fun ds env1 cs1 vs H1 S1 mu1 va r1 => by
    obtain ⟨y, e, k⟩ := r1.cs
    exact h _ _ _ _ _ _ _ _ r1.1.hs va e k
/-- a built-in function told by f -/
def CallS (g : Glob) (u : Value) (f : OpFn) : Prop := ∀ X : Cx, X.K = g.K → X.A.units + 64 < cLine → X.calm = true → ∃ r, CallR X u r ∧ OpOkN g f r
theorem sB {id : String} {f : OpFn} {x : Str} {p : Pos} {m : M (List D)} (hK : X.K = g.K) (hu : X.A.units + 64 < cLine) (hc : X.calm = true) (h : CallS g (.builtin id) f) (hg : Gl X x) (hm : X.mg x = none) (hv : bootBuiltins x = some (.builtin id)) (ha : PA X (e :: es) (rdOs g F W m)) (hst : ∀ x p, e ≠ .Starred x p) (hn : x ≠ "__name__") (hdb : (x == ("__debug__" : Str)) = false)
    (hpl : (backTo pos (starEach es X.env)).any (·.1) = false) : PE X (.Call (.Name x p) (e :: es) [] pos) (rdE g F W (mOpN f m)) := by
  obtain ⟨r, h1, h2⟩ := h X hK hu hc
  exact PE.imp (pe_callB h1 hg hm hv ha hn hdb (starEach_cons hst) hpl) (iOpN h2)
theorem sTy {T : String} {f : OpFn} {x : Str} {p : Pos} {m : M (List D)} (hK : X.K = g.K) (hu : X.A.units + 64 < cLine) (hc : X.calm = true) (h : CallS g (.type T) f) (hg : Gl X x) (hm : X.mg x = none) (hv : bootBuiltins x = some (.type T)) (ha : PA X (e :: es) (rdOs g F W m)) (hst : ∀ x p, e ≠ .Starred x p) (hn : x ≠ "__name__") (hdb : (x == ("__debug__" : Str)) = false)
    (hpl : (backTo pos (starEach es X.env)).any (·.1) = false) : PE X (.Call (.Name x p) (e :: es) [] pos) (rdE g F W (mOpN f m)) := by
  obtain ⟨r, h1, h2⟩ := h X hK hu hc
  exact PE.imp (pe_callTy h1 hg hm hv ha hn hdb (starEach_cons hst) hpl) (iOpN h2)
end

/-! ### by what the operands are -/
@[simp] def drL (cs : Cells) : List D → Option (List D)
  | [] => some []
  | d :: ds => (dr cs d).bind fun x => (drL cs ds).map fun xs => x :: xs
inductive VwL (g : Glob) (H S : Hp) (mu : List Addr) : List V → List D → Prop
  | nil : VwL g H S mu [] []
  | cons {v : V} {vs : List V} {d : D} {ds : List D} : Vw g H S mu v d → VwL g H S mu vs ds → VwL g H S mu (v :: vs) (d :: ds)
section
variable {g : Glob} {H S : Hp} {mu : List Addr} {cs : Cells}
theorem VoL.dr (h : HS g H S mu cs) : ∀ {vs : List V} {ds xs : List D}, VoL g H S mu vs ds → drL cs ds = some xs → VwL g H S mu vs xs
  | _, _, _, .nil, e => by cases e; exact .nil
  | _, _, _, .cons (d := d) (ds := ds) a r, e => by
    unfold drL at e
    cases e1 : EL.dr cs d with
    | none => rw [e1] at e; cases e
    | some y =>
      rw [e1] at e
      cases e2 : drL cs ds with
      | none => simp [e2] at e
      | some ys =>
        have e : (drL cs ds).map (fun xs => y :: xs) = some _ := e
        rw [e2] at e
        cases e
        exact .cons (a.dr h e1) (VoL.dr h r e2)
end
abbrev Fn := List D → Option (D × Bool)
@[simp] def drN (f : Fn) : OpFn := fun cs ds => (drL cs ds).bind f
def OpVN (g : Glob) (f : Fn) (r : List V → Hp → VK → Prop) : Prop := ∀ (H S : Hp) (mu : List Addr) (cs : Cells) (vs : List V) (ds : List D) (x : D × Bool) (Q : VK), HS g H S mu cs → VwL g H S mu vs ds → f ds = some x →
  (∀ u H' S', OpRes g H S mu H' S' u x.1 x.2 → Q u H') → r vs H Q
theorem OpVN.ok {g : Glob} {f : Fn} {r : List V → Hp → VK → Prop} (h : OpVN g f r) : OpOkN g (drN f) r := fun H S mu cs vs ds x Q hs va e k => by
  unfold drN at e
  cases e1 : drL cs ds with
  | none => rw [e1] at e; cases e
  | some ys =>
    rw [e1] at e
    exact h _ _ _ _ _ _ _ _ hs (va.dr hs e1) e k
@[simp] def orN (f f' : Fn) : Fn := fun ds => match f ds with
  | some x => some x
  | none => f' ds
theorem OpVN.or {g : Glob} {f f' : Fn} {r r' : List V → Hp → VK → Prop} (h : OpVN g f r) (h' : OpVN g f' r') : OpVN g (orN f f') (fun xs H Q => r xs H Q ∨ r' xs H Q) := fun H S mu cs vs ds x Q hs va e k => by
  unfold orN at e
  cases e1 : f ds with
  | some y => rw [e1] at e; cases e; exact .inl (h _ _ _ _ _ _ _ _ hs va e1 k)
  | none => rw [e1] at e; exact .inr (h' _ _ _ _ _ _ _ _ hs va e k)
section
variable {g : Glob} {H S : Hp} {mu : List Addr} {cs : Cells}
theorem VwL.one {vs : List V} {d : D} (h : VwL g H S mu vs [d]) : ∃ v, vs = [v] ∧ Vw g H S mu v d := by
  cases h with
  | cons a r => cases r; exact ⟨_, rfl, a⟩
theorem VwL.two {vs : List V} {d d' : D} (h : VwL g H S mu vs [d, d']) : ∃ v v', vs = [v, v'] ∧ Vw g H S mu v d ∧ Vw g H S mu v' d' := by
  cases h with
  | cons a r =>
    cases r with
    | cons b r => cases r; exact ⟨_, _, rfl, a, b⟩
end
/-! ### len, abs, max, min, int, divmod .. -/
@[simp] def fLen : Fn
  | [.lst ds] => some (.int ds.length, false)
  | [.tup ds] => some (.int ds.length, false)
  | [.str x] => if x.length ≤ sizeLine then some (.int x.length, false) else none
  | _ => none
theorem s_len {g : Glob} : CallS g (.builtin "len") (drN fLen) := fun X hK hu hc => ⟨_, call_len, OpVN.ok fun H S mu cs vs ds x Q hs va e k => by
  rcases ds with _ | ⟨d, _ | ⟨d', ds⟩⟩ <;> first | (cases e; done) | skip
  · obtain ⟨v, rfl, w⟩ := va.one
    cases d <;> first | (simp [fLen] at e; done) | skip
    · simp only [fLen] at e
      split at e
      · rename_i hl
        cases e
        cases w.str
        exact ⟨_, _, rfl, ⟨hl, rfl⟩, k _ _ _ (.val (.int _))⟩
      · cases e
    · cases e
      obtain ⟨a, xs, rfl, h1, h2⟩ := w.lst hs
      refine ⟨_, _, rfl, .inl ⟨xs, hK.symm ▸ h1, rfl⟩, ?_⟩
      rw [h2.length]
      exact k _ _ _ (.val (.int _))
    · cases e
      obtain ⟨a, xs, rfl, h1, h2⟩ := w.tup hs
      refine ⟨_, _, rfl, .inr ⟨xs, hK.symm ▸ h1, rfl⟩, ?_⟩
      rw [h2.length]
      exact k _ _ _ (.val (.int _))
  · cases d <;> cases e⟩
@[simp] def fAbs : Fn
  | [.int i] => some (.int (if i < 0 then -i else i), false)
  | _ => none
theorem s_abs {g : Glob} : CallS g (.builtin "abs") (drN fAbs) := fun X hK hu hc => ⟨_, call_abs, OpVN.ok fun H S mu cs vs ds x Q hs va e k => by
  rcases ds with _ | ⟨d, _ | ⟨d', ds⟩⟩ <;> first | (cases e; done) | skip
  · obtain ⟨v, rfl, w⟩ := va.one
    cases d <;> first | (simp [fAbs] at e; done) | skip
    cases e
    cases w.int
    exact ⟨_, rfl, k _ _ _ (.val (.int _))⟩
  · cases d <;> cases e⟩
@[simp] def fInt : Fn
  | [.int i] => some (.int i, false)
  | [.bl b] => some (.int (if b then 1 else 0), false)
  | _ => none
theorem s_int {g : Glob} : CallS g (.type "int") (drN fInt) := fun X hK hu hc => ⟨_, call_int1, OpVN.ok fun H S mu cs vs ds x Q hs va e k => by
  rcases ds with _ | ⟨d, _ | ⟨d', ds⟩⟩ <;> first | (cases e; done) | skip
  · obtain ⟨v, rfl, w⟩ := va.one
    cases d <;> first | (simp [fInt] at e; done) | skip
    · cases e
      cases w.bl
      exact .inr ⟨_, rfl, k _ _ _ (.val (.int _))⟩
    · cases e
      cases w.int
      exact .inl ⟨_, rfl, k _ _ _ (.val (.int _))⟩
  · cases d <;> cases e⟩
/-- ints alone -/
def intsD : List D → Option (List Int)
  | [] => some []
  | .int i :: ds => (intsD ds).map fun is => i :: is
  | _ => none
theorem RpL.ints {g : Glob} {S mu} : ∀ {vs : List V} {ds : List D} {is : List Int}, RpL g S mu vs ds → intsD ds = some is → vs = is.map V.int
  | _, [], _, .nil, e => by cases e; rfl
  | _, d :: ds, _, .cons h r, e => by
    cases d <;> first | (simp [intsD] at e; done) | skip
    unfold intsD at e
    cases e1 : intsD ds with
    | none => rw [e1] at e; cases e
    | some is =>
      rw [e1] at e
      cases e
      cases h
      rw [RpL.ints r e1, List.map_cons]
def blsD : List D → Option (List Bool)
  | [] => some []
  | .bl i :: ds => (blsD ds).map fun is => i :: is
  | _ => none
theorem RpL.bls {g : Glob} {S mu} : ∀ {vs : List V} {ds : List D} {is : List Bool}, RpL g S mu vs ds → blsD ds = some is → vs = is.map V.bl
  | _, [], _, .nil, e => by cases e; rfl
  | _, d :: ds, _, .cons h r, e => by
    cases d <;> first | (simp [blsD] at e; done) | skip
    unfold blsD at e
    cases e1 : blsD ds with
    | none => rw [e1] at e; cases e
    | some is =>
      rw [e1] at e
      cases e
      cases h
      rw [RpL.bls r e1, List.map_cons]
/-- the greatest, the least -/
def maxI : Int → List Int → Int
  | m, [] => m
  | m, i :: is => maxI (if m < i then i else m) is
def minI : Int → List Int → Int
  | m, [] => m
  | m, i :: is => minI (if i < m then i else m) is
theorem maxI_spec : ∀ (is : List Int) (m : Int), (maxI m is = m ∨ maxI m is ∈ is) ∧ m ≤ maxI m is ∧ ∀ y ∈ is, y ≤ maxI m is
  | [], m => ⟨.inl rfl, Int.le_refl _, fun _ h => nomatch h⟩
  | i :: is, m => by
    obtain ⟨h1, h2, h3⟩ := maxI_spec is (if m < i then i else m)
    unfold maxI
    refine ⟨?_, ?_, fun y hy => ?_⟩
    · rcases h1 with h | h
      · rw [h]
        split
        · exact .inr List.mem_cons_self
        · exact .inl rfl
      · exact .inr (List.mem_cons_of_mem _ h)
    · have : m ≤ if m < i then i else m := by split <;> omega
      omega
    · rcases List.mem_cons.mp hy with rfl | hy
      · have : y ≤ if m < y then y else m := by split <;> omega
        omega
      · exact h3 y hy
theorem minI_spec : ∀ (is : List Int) (m : Int), (minI m is = m ∨ minI m is ∈ is) ∧ minI m is ≤ m ∧ ∀ y ∈ is, minI m is ≤ y
  | [], m => ⟨.inl rfl, Int.le_refl _, fun _ h => nomatch h⟩
  | i :: is, m => by
    obtain ⟨h1, h2, h3⟩ := minI_spec is (if i < m then i else m)
    unfold minI
    refine ⟨?_, ?_, fun y hy => ?_⟩
    · rcases h1 with h | h
      · rw [h]
        split
        · exact .inr List.mem_cons_self
        · exact .inl rfl
      · exact .inr (List.mem_cons_of_mem _ h)
    · have : (if i < m then i else m) ≤ m := by split <;> omega
      omega
    · rcases List.mem_cons.mp hy with rfl | hy
      · have : (if y < m then y else m) ≤ y := by split <;> omega
        omega
      · exact h3 y hy
@[simp] def fMaxL : Fn
  | [.lst ds] => match intsD ds with
    | some (i :: is) => some (.int (maxI i is), false)
    | _ => none
  | _ => none
@[simp] def fMax2 : Fn
  | [.int i, .int j] => some (.int (if j > i then j else i), false)
  | _ => none
@[simp] def fMinL : Fn
  | [.lst ds] => match intsD ds with
    | some (i :: is) => some (.int (minI i is), false)
    | _ => none
  | _ => none
@[simp] def fMin2 : Fn
  | [.int i, .int j] => some (.int (if j < i then j else i), false)
  | _ => none
theorem v_maxL {g : Glob} : OpVN g fMaxL (rMax g.K) := fun H S mu cs vs ds x Q hs va e k => by
  rcases ds with _ | ⟨d, _ | ⟨d', ds⟩⟩ <;> first | (cases e; done) | skip
  · obtain ⟨v, rfl, w⟩ := va.one
    cases d <;> first | (simp [fMaxL] at e; done) | skip
    rename_i zs
    simp only [fMaxL] at e
    cases e1 : intsD zs with
    | none => rw [e1] at e; cases e
    | some is =>
      rw [e1] at e
      cases is with
      | nil => cases e
      | cons i is =>
        cases e
        obtain ⟨a, xs, rfl, h1, h2⟩ := w.lst hs
        have hx := h2.ints e1
        subst hx
        obtain ⟨m1, m2, m3⟩ := maxI_spec is i
        refine ⟨a, _, rfl, h1, by simp, fun m hm hy => ?_⟩
        have : m = maxI i is := by
          have a1 : maxI i is ≤ m := hy _ (by rcases m1 with h | h <;> simp [h])
          have a2 : m ≤ maxI i is := by
            rcases List.mem_cons.mp hm with rfl | hm
            · exact m2
            · exact m3 m hm
          omega
        subst this
        exact k _ _ _ (.val (.int _))
  · cases d <;> cases e
theorem v_minL {g : Glob} : OpVN g fMinL (rMin g.K) := fun H S mu cs vs ds x Q hs va e k => by
  rcases ds with _ | ⟨d, _ | ⟨d', ds⟩⟩ <;> first | (cases e; done) | skip
  · obtain ⟨v, rfl, w⟩ := va.one
    cases d <;> first | (simp [fMinL] at e; done) | skip
    rename_i zs
    simp only [fMinL] at e
    cases e1 : intsD zs with
    | none => rw [e1] at e; cases e
    | some is =>
      rw [e1] at e
      cases is with
      | nil => cases e
      | cons i is =>
        cases e
        obtain ⟨a, xs, rfl, h1, h2⟩ := w.lst hs
        have hx := h2.ints e1
        subst hx
        obtain ⟨m1, m2, m3⟩ := minI_spec is i
        refine ⟨a, _, rfl, h1, by simp, fun m hm hy => ?_⟩
        have : m = minI i is := by
          have a1 : m ≤ minI i is := hy _ (by rcases m1 with h | h <;> simp [h])
          have a2 : minI i is ≤ m := by
            rcases List.mem_cons.mp hm with rfl | hm
            · exact m2
            · exact m3 m hm
          omega
        subst this
        exact k _ _ _ (.val (.int _))
  · cases d <;> cases e
theorem v_int2 {g : Glob} {f : Fn} {h : Int → Int → Int} (hf : ∀ ds x, f ds = some x → ∃ i j, ds = [.int i, .int j] ∧ x = (.int (h i j), false)) : OpVN g f (fun xs H Q => ∃ i j, xs = [V.int i, .int j] ∧ Q (.int (h i j)) H) := fun H S mu cs vs ds x Q hs va e k => by
  obtain ⟨i, j, rfl, rfl⟩ := hf _ _ e
  obtain ⟨v, w, rfl, h1, h2⟩ := va.two
  cases h1.int
  cases h2.int
  exact ⟨i, j, rfl, k _ _ _ (.val (.int _))⟩
def fMax : Fn := orN fMaxL fMax2
def fMin : Fn := orN fMinL fMin2
theorem s_max {g : Glob} : CallS g (.builtin "max") (drN fMax) := fun X hK hu hc => ⟨_, (cr_max hc).or (call_max2 hc), OpVN.ok (hK.symm ▸ v_maxL.or (v_int2 (h := fun i j => if j > i then j else i) fun ds x e => by
  rcases ds with _ | ⟨d, _ | ⟨d', _ | ⟨d'', ds⟩⟩⟩ <;> first | (cases e; done) | (cases d <;> cases e; done) | skip
  · cases d <;> cases d' <;> cases e
    exact ⟨_, _, rfl, rfl⟩
  · cases d <;> cases d' <;> cases e))⟩
theorem s_min {g : Glob} : CallS g (.builtin "min") (drN fMin) := fun X hK hu hc => ⟨_, (cr_min hc).or (call_min2 hc), OpVN.ok (hK.symm ▸ v_minL.or (v_int2 (h := fun i j => if j < i then j else i) fun ds x e => by
  rcases ds with _ | ⟨d, _ | ⟨d', _ | ⟨d'', ds⟩⟩⟩ <;> first | (cases e; done) | (cases d <;> cases e; done) | skip
  · cases d <;> cases d' <;> cases e
    exact ⟨_, _, rfl, rfl⟩
  · cases d <;> cases d' <;> cases e))⟩
@[simp] def fSum : Fn
  | [.lst ds] => (intsD ds).map fun is => (.int is.sum, false)
  | _ => none
theorem s_sum {g : Glob} : CallS g (.builtin "sum") (drN fSum) := fun X hK hu hc => ⟨_, cr_sum hc, OpVN.ok fun H S mu cs vs ds x Q hs va e k => by
  rcases ds with _ | ⟨d, _ | ⟨d', ds⟩⟩ <;> first | (cases e; done) | skip
  · obtain ⟨v, rfl, w⟩ := va.one
    cases d <;> first | (simp [fSum] at e; done) | skip
    rename_i zs
    simp only [fSum] at e
    cases e1 : intsD zs with
    | none => rw [e1] at e; cases e
    | some is =>
      rw [e1] at e
      cases e
      obtain ⟨a, xs, rfl, h1, h2⟩ := w.lst hs
      have hx := h2.ints e1
      subst hx
      exact ⟨a, is, rfl, hK.symm ▸ h1, k _ _ _ (.val (.int _))⟩
  · cases d <;> cases e⟩
@[simp] def fAll : Fn
  | [.lst ds] => (blsD ds).map fun is => (.bl (is.all id), false)
  | _ => none
@[simp] def fAny : Fn
  | [.lst ds] => (blsD ds).map fun is => (.bl (is.any id), false)
  | _ => none
theorem s_all {g : Glob} : CallS g (.builtin "all") (drN fAll) := fun X hK hu hc => ⟨_, cr_all hc, OpVN.ok fun H S mu cs vs ds x Q hs va e k => by
  rcases ds with _ | ⟨d, _ | ⟨d', ds⟩⟩ <;> first | (cases e; done) | skip
  · obtain ⟨v, rfl, w⟩ := va.one
    cases d <;> first | (simp [fAll] at e; done) | skip
    rename_i zs
    simp only [fAll] at e
    cases e1 : blsD zs with
    | none => rw [e1] at e; cases e
    | some is =>
      rw [e1] at e
      cases e
      obtain ⟨a, xs, rfl, h1, h2⟩ := w.lst hs
      have hx := h2.bls e1
      subst hx
      exact ⟨a, is, rfl, hK.symm ▸ h1, k _ _ _ (.val (.bl _))⟩
  · cases d <;> cases e⟩
theorem s_any {g : Glob} : CallS g (.builtin "any") (drN fAny) := fun X hK hu hc => ⟨_, cr_any hc, OpVN.ok fun H S mu cs vs ds x Q hs va e k => by
  rcases ds with _ | ⟨d, _ | ⟨d', ds⟩⟩ <;> first | (cases e; done) | skip
  · obtain ⟨v, rfl, w⟩ := va.one
    cases d <;> first | (simp [fAny] at e; done) | skip
    rename_i zs
    simp only [fAny] at e
    cases e1 : blsD zs with
    | none => rw [e1] at e; cases e
    | some is =>
      rw [e1] at e
      cases e
      obtain ⟨a, xs, rfl, h1, h2⟩ := w.lst hs
      have hx := h2.bls e1
      subst hx
      exact ⟨a, is, rfl, hK.symm ▸ h1, k _ _ _ (.val (.bl _))⟩
  · cases d <;> cases e⟩
@[simp] def fDivmod : Fn
  | [.int i, .int j] => if divFit j then some (.tup [.int (i / j), .int (i % j)], false) else none
  | _ => none
theorem divFit_ok {i j : Int} (h : divFit j = true) : CDivP i j := by
  obtain ⟨h1, h2⟩ := of_decide_eq_true h
  exact ⟨h1, PyProof.noPylong_of_log2 h2⟩
theorem s_divmod {g : Glob} : CallS g (.builtin "divmod") (drN fDivmod) := fun X hK hu hc => ⟨_, call_divmodW, OpVN.ok fun H S mu cs vs ds x Q hs va e k => by
  rcases ds with _ | ⟨d, _ | ⟨d', _ | ⟨d'', ds⟩⟩⟩ <;> first | (cases e; done) | (cases d <;> cases e; done) | skip
  · cases d <;> cases d' <;> first | (simp [fDivmod] at e; done) | skip
    simp only [fDivmod] at e
    split at e
    · rename_i hd
      cases e
      obtain ⟨v, w, rfl, h1, h2⟩ := va.two
      cases h1.int
      cases h2.int
      exact ⟨_, _, rfl, divFit_ok hd, fun p hp => k _ _ _ (OpRes.tup hs hp (.cons (.int _) (.cons (.int _) .nil)))⟩
    · cases e
  · cases d <;> cases d' <;> cases e⟩
@[simp] def fTuple : Fn
  | [.lst ds] => some (.tup ds, false)
  | [.tup ds] => some (.tup ds, false)
  | _ => none
theorem s_tuple {g : Glob} : CallS g (.type "tuple") (drN fTuple) := fun X hK hu hc => ⟨_, call_tuple_of, OpVN.ok fun H S mu cs vs ds x Q hs va e k => by
  rcases ds with _ | ⟨d, _ | ⟨d', ds⟩⟩ <;> first | (cases e; done) | skip
  · obtain ⟨v, rfl, w⟩ := va.one
    cases d <;> first | (simp [fTuple] at e; done) | skip
    · cases e
      obtain ⟨a, xs, rfl, h1, h2⟩ := w.lst hs
      exact ⟨a, xs, rfl, .inl ⟨hK.symm ▸ h1, fun l hl => k _ _ _ (OpRes.tup hs hl h2)⟩⟩
    · cases e
      rename_i ds
      have rp : Rp g S mu v (.tup ds) := by
        rcases w with z | ⟨_, _, z⟩
        · exact z
        · exact z.elim
      obtain ⟨a, xs, rfl, h1, h2⟩ := w.tup hs
      exact ⟨a, xs, rfl, .inr ⟨hK.symm ▸ h1, k _ _ _ (.val rp)⟩⟩
  · cases d <;> cases e⟩
@[simp] def fList : Fn
  | [.lst ds] => some (.lst ds, true)
  | [.tup ds] => some (.lst ds, true)
  | _ => none
theorem s_list {g : Glob} : CallS g (.type "list") (drN fList) := fun X hK hu hc => ⟨_, call_list_of, OpVN.ok fun H S mu cs vs ds x Q hs va e k => by
  rcases ds with _ | ⟨d, _ | ⟨d', ds⟩⟩ <;> first | (cases e; done) | skip
  · obtain ⟨v, rfl, w⟩ := va.one
    cases d <;> first | (simp [fList] at e; done) | skip
    · cases e
      obtain ⟨a, xs, rfl, h1, h2⟩ := w.lst hs
      exact ⟨a, xs, rfl, .inl (hK.symm ▸ h1), fun l hl => k _ _ _ (OpRes.lst hs hl h2)⟩
    · cases e
      obtain ⟨a, xs, rfl, h1, h2⟩ := w.tup hs
      exact ⟨a, xs, rfl, .inr (hK.symm ▸ h1), fun l hl => k _ _ _ (OpRes.lst hs hl h2)⟩
  · cases d <;> cases e⟩
end EL
namespace EL
open PySem PySem.Spec L2

theorem Vw.up {g : Glob} {H S H' S' : Hp} {mu : List Addr} {v : V} {d : D} (w : Vw g H S mu v d) (u : Up H S H' S') : Vw g H' S' mu v d := by
  rcases w with w | ⟨a, e, w⟩
  · exact .inl (w.mono u.mo)
  · exact .inr ⟨a, e, w.keep u.mo (u.h a)⟩
/-! ### isinstance -/
@[simp] def tyN : D → Option String
  | .non => some "NoneType"
  | .bl _ => some "bool"
  | .int _ => some "int"
  | .str _ => some "str"
  | .lst _ => some "list"
  | .tup _ => some "tuple"
  | .dct _ => some "dict"
  | _ => none
theorem tyx_of {g : Glob} {H S : Hp} {mu : List Addr} {cs : Cells} {v : V} {d : D} {n : String} (hs : HS g H S mu cs) (w : Vw g H S mu v d) (e : tyN d = some n) : TyX g.K H v (.type n) := by
  have rdl : ∀ a vs, SqL g.K H a vs → TyX g.K H (.ref a) (.type "list") := fun a vs h => by
    rcases h with (h | ⟨o, h⟩) | ⟨o, its, n, h1, h2, _⟩
    · exact .base (.lst h)
    · exact .base (.frz h)
    · exact .kList h1 h2
  have rdt : ∀ a vs, SqT g.K H a vs → TyX g.K H (.ref a) (.type "tuple") := fun a vs h => by
    rcases h with (h | ⟨o, h⟩) | ⟨o, its, n, h1, h2, _⟩
    · exact .base (.tup h)
    · exact .fTuple h
    · exact .kTuple h1 h2
  cases d <;> first | (simp [tyN] at e; done) | skip
  · cases e; cases w.non; exact .base .non
  · cases e; cases w.bl; exact .base (.bl _)
  · cases e; cases w.int; exact .base (.int _)
  · cases e; cases w.str; exact .base (.str _)
  · cases e
    obtain ⟨a, xs, rfl, h1, h2⟩ := w.lst hs
    exact rdl _ _ h1
  · cases e
    obtain ⟨a, xs, rfl, h1, h2⟩ := w.tup hs
    exact rdt _ _ h1
  · cases e
    obtain ⟨a, xs, rfl, h1, h2⟩ := w.dct hs
    rcases h1 with h | ⟨o, h⟩
    · exact .base (.dK h)
    · exact .fDict h
/-- of built-in types -/
@[simp] def isTy (t c : String) : Bool := t == c || (t == "bool" && c == "int")
def tyNames : List String := ["NoneType", "bool", "int", "str", "list", "tuple", "dict"]
theorem kit_isTy : ∀ t ∈ tyNames, ∀ c ∈ tyNames, kitB t c = some (isTy t c) := by decide +kernel
theorem tyN_mem {d : D} {n : String} (e : tyN d = some n) : n ∈ tyNames := by
  cases d <;> cases e <;> decide
/-- isinstance by one of several built-in types -/
@[simp] def isiD (cs' : List String) (d : D) : Option Bool := (tyN d).map fun t => cs'.any (isTy t)
/-- how to tell isinstance of a class that is a value -/
def IsiOk (g : Glob) (us : List Value) (test : D → Option Bool) : Prop := ∀ (H S : Hp) (mu : List Addr) (cs : Cells) (v : V) (d : D) (b : Bool), HS g H S mu cs → Vw g H S mu v d → test d = some b → ∃ t, TyX g.K H v t ∧ PySem.W.kitAny g.K t us = some b
theorem kitAny_one {K : PySem.W.Frag} {t u : Value} {b : Bool} (h : PySem.W.kitAny K t [u] = some b) : PySem.W.kitOne K t u = some b := by
  unfold PySem.W.kitAny at h
  cases e : PySem.W.kitOne K t u with
  | none => rw [e] at h; cases h
  | some c =>
    rw [e] at h
    cases c with
    | true => exact h
    | false => exact h
theorem kitAny_tys {K : PySem.W.Frag} {t : String} (ht : t ∈ tyNames) : ∀ {cs : List String}, (∀ c ∈ cs, c ∈ tyNames) → PySem.W.kitAny K (.type t) (cs.map Value.type) = some (cs.any (isTy t))
  | [], _ => rfl
  | c :: cs, h => by
    rw [List.map_cons, List.any_cons]
    refine kitAny_cons (b := isTy t c) (kit_ty (kit_isTy t ht c (h c List.mem_cons_self))) (fun hb => ?_) (fun hb => by rw [hb]; rfl)
    rw [hb, Bool.false_or]
    exact kitAny_tys ht fun z hz => h z (List.mem_cons_of_mem _ hz)
theorem isi_tys {g : Glob} {cs : List String} (h : ∀ c ∈ cs, c ∈ tyNames) : IsiOk g (cs.map Value.type) (isiD cs) := fun H S mu cl v d b hs w e => by
  unfold isiD at e
  cases e1 : tyN d with
  | none => rw [e1] at e; cases e
  | some n =>
    rw [e1] at e
    cases e
    exact ⟨.type n, tyx_of hs w e1, kitAny_tys (tyN_mem e1) h⟩
@[simp] def fIsi (test : D → Option Bool) : OpF1 := fun cs d => ((dr cs d).bind test).map fun b => (.bl b, false)
section
variable {g : Glob} {F : Ent} {W : WX} {X : Cx} {a b c e o i : Expr} {es : List Expr} {pos : Pos}
theorem sIsi {p : Pos} {ma : M D} {test : D → Option Bool} {u : Value} {cv : V} (hK : X.K = g.K) (hg : Gl X "isinstance") (hm : X.mg "isinstance" = none) (h : IsiOk g [u] test) (ha : PE X a (rdO g F W ma)) (hst : ∀ x p, a ≠ .Starred x p) (hst2 : ∀ x p, b ≠ .Starred x p)
    (hb : PE X b (tC cv)) (hc : ClsV cv u) : PE X (.Call (.Name "isinstance" p) [a, b] [] pos) (rdE g F W (mOp1 (fIsi test) ma)) := by
  have hz : starEach [b] X.env = (false, eval b X.env) :: starEach [] X.env := starEach_cons hst2
  refine PE.imp (pe_callB call_isi hg hm rfl (pa_cons ha (pa_cons hb pa_nil hz) (starEach_cons hst)) (he := starEach_cons hst) (hpl := by rw [hz]; rfl)) fun σ H Q q => ?_
  refine rd_bind q fun d env1 cs1 v H1 S1 mu1 va r1 => ?_
  obtain ⟨y, e, k⟩ := r1.cs
  unfold fIsi at e
  cases e1 : dr cs1 d with
  | none => rw [e1] at e; cases e
  | some d' =>
    rw [e1] at e
    cases e2 : test d' with
    | none =>
      have e : (test d').map (fun b => (D.bl b, false)) = some y := e
      rw [e2] at e; cases e
    | some b =>
      have e : (test d').map (fun b => (D.bl b, false)) = some y := e
      rw [e2] at e
      cases e
      obtain ⟨t, h1, h2⟩ := h _ _ _ _ _ _ _ r1.1.hs (va.dr r1.1.hs e1) e2
      exact ⟨v, cv, t, u, b, rfl, hc, hK.symm ▸ h1, hK.symm ▸ kitAny_one h2, k _ _ _ (.val (.bl _))⟩
/-- values that never change, in a row -/
theorem ac_nil : PA X [] (fun _ H Q => Q [] H) := pa_nil
theorem ac_cons {v : V} {vs : List V} (h1 : PE X e (tC v)) (h2 : PA X es (fun _ H Q => Q vs H)) (hs : ∀ x p, e ≠ .Starred x p) : PA X (e :: es) (fun _ H Q => Q (v :: vs) H) :=
  PA.imp (pa_cons h1 h2 (starEach_cons hs)) fun σ H Q q => q
theorem sIsiT {p tpos : Pos} {k : Nat} {ma : M D} {test : D → Option Bool} {us : List Value} {cvs : List V} (hK : X.K = g.K) (hg : Gl X "isinstance") (hm : X.mg "isinstance" = none) (h : IsiOk g us test) (ha : PE X a (rdO g F W ma)) (hst : ∀ x p, a ≠ .Starred x p)
    (hb : PA X es (fun _ H Q => Q cvs H)) (hl : cvs.length ≤ 100) (hc : Paired ClsV cvs us) : PE X (.Call (.Name "isinstance" p) [a, .Tuple es k tpos] [] pos) (rdE g F W (mOp1 (fIsi test) ma)) := by
  have hz : starEach [Expr.Tuple es k tpos] X.env = (false, eval (.Tuple es k tpos) X.env) :: starEach [] X.env := starEach_cons (fun _ _ h => by cases h)
  refine PE.imp (pe_callB call_isiT hg hm rfl (pa_cons ha (pa_cons (pe_tup hb) pa_nil hz) (starEach_cons hst)) (he := starEach_cons hst) (hpl := by rw [hz]; rfl)) fun σ H Q q => ?_
  refine rd_bind q fun d env1 cs1 v H1 S1 mu1 va r1 => ?_
  obtain ⟨y, e, k⟩ := r1.cs
  unfold fIsi at e
  cases e1 : dr cs1 d with
  | none => rw [e1] at e; cases e
  | some d' =>
    rw [e1] at e
    cases e2 : test d' with
    | none =>
      have e : (test d').map (fun b => (D.bl b, false)) = some y := e
      rw [e2] at e; cases e
    | some b =>
      have e : (test d').map (fun b => (D.bl b, false)) = some y := e
      rw [e2] at e
      cases e
      refine ⟨Nat.le_trans hl (by decide), fun q hq => ?_⟩
      have u := Up.new (o := .tup cvs) hq (r1.1.hs.sNone hq)
      obtain ⟨t, h1, h2⟩ := h _ _ _ _ _ _ _ (u.hs r1.1.hs) ((va.dr r1.1.hs e1).up u) e2
      exact ⟨v, q, cvs, t, us, b, rfl, upd_same, hc, hK.symm ▸ h1, hK.symm ▸ h2, k _ _ _ ⟨u, by show (if false = true then _ else _); rw [if_neg (by decide)]; exact .bl _⟩⟩
end
/-! ### slices -/
section
variable {g : Glob} {F : Ent} {W : WX} {X : Cx} {a b c e o i : Expr} {es : List Expr} {pos : Pos}
theorem PO.imp {x : Option Expr} {t t' : TO} (h : PO X x t) (i : ∀ σ H Q, t' σ H Q → t σ H Q) : PO X x t' := ⟨fun pins s σ H Q I q => h.run pins s σ H Q I (i σ H Q q)⟩
abbrev rdP (g : Glob) (F : Ent) (W : WX) (m : M (Option Int)) : TO := rd g F W TEq m
theorem sPNone : PO X none (rdP g F W (M.pure none)) := PO.imp po_none fun σ H Q ⟨S, mu, env, cs, ra⟩ => ra.pure rfl
@[simp] def intD : D → Option (Option Int)
  | .int i => some (some i)
  | _ => none
def mPart (m : M D) : M (Option Int) := m.bind fun d => M.opt (intD d)
theorem sPSome {m : M D} (h : PE X e (rdO g F W m)) : PO X (some e) (rdP g F W (mPart m)) := PO.imp (po_some h) fun σ H Q q => rd_bind q fun d env1 cs1 v H1 S1 mu1 va r1 => by
  obtain ⟨y, e, k⟩ := r1.optT
  cases d <;> first | (simp [intD] at e; done) | skip
  cases e
  have w : Vw g H1 S1 mu1 v (.int _) := va.dr r1.1.hs rfl
  cases w.int
  exact ⟨_, rfl, k⟩
def mSlice (me : M D) (ml mh : M (Option Int)) : M (D × Bool) := me.bind fun d => ml.bind fun lo => mh.bind fun hi => mCs fun cs => (dr cs d).bind fun x => slD x lo hi
def rSl (K : PySem.W.Frag) : V → Option Int → Option Int → Hp → VK → Prop := fun x lo hi H Q => rSlL K x lo hi H Q ∨ rSlA K x lo hi H Q ∨ rSlS x lo hi H Q
theorem cut_whole {ds : List D} {lo hi : Option Int} (h : HT.sIx ds.length 0 lo = 0 ∧ HT.sIx ds.length ds.length hi = ds.length) : cutD ds lo hi = ds := by
  unfold cutD
  rw [h.1, h.2]
  simp
theorem sSlice {me : M D} {ml mh : M (Option Int)} {lo hi : Option Expr} {p2 : Pos} (hK : X.K = g.K) (he : PE X e (rdO g F W me)) (hl : PO X lo (rdP g F W ml)) (hh : PO X hi (rdP g F W mh)) : PE X (.Subscript e (.Slice lo hi none p2) pos) (rdE g F W (mSlice me ml mh)) :=
  PE.imp (pe_slice (r := rSl X.K) (sl_list.or (sl_tupA.or sl_str)) he hl hh) fun σ H Q q => rd_bind q fun d env1 cs1 v H1 S1 mu1 va r1 => (r1.bind fun l env2 cs2 w H2 S2 mu2 gr2 t2 r2 => (r2.bind fun u env3 cs3 w3 H3 S3 mu3 gr3 t3 r3 => by
    subst t2 t3
    obtain ⟨y, ey, k⟩ := r3.cs
    have hs := r3.1.hs
    have va3 := Vo.keep va (gr2.trans gr3) r1.1.hs
    cases e1 : dr cs3 d with
    | none => rw [e1] at ey; cases ey
    | some d' =>
      rw [e1] at ey
      have wv := va3.dr hs e1
      rw [hK]
      cases d' <;> first | (cases ey; done) | skip
      · have ey : (if _ then _ else _) = some y := ey
        split at ey
        · rename_i hz
          cases ey
          cases wv.str
          exact .inr (.inr ⟨_, rfl, hz, k _ _ _ (.val (.str _))⟩)
        · cases ey
      · cases ey
        obtain ⟨a, xs, rfl, h1, h2⟩ := wv.lst hs
        exact .inl ⟨a, xs, rfl, h1, fun p hp => k _ _ _ (OpRes.lst hs hp (h2.cut w w3))⟩
      · cases ey
        rename_i ds
        have rp : Rp g S3 mu3 v (.tup ds) := by
          rcases wv with z | ⟨_, _, z⟩
          · exact z
          · exact z.elim
        obtain ⟨a, xs, rfl, h1, h2⟩ := wv.tup hs
        refine .inr (.inl ⟨a, xs, rfl, h1, fun hw => ?_, fun hw p hp => k _ _ _ (OpRes.tup hs hp (h2.cut w w3))⟩)
        rw [h2.length] at hw
        refine k _ _ _ (.val ?_)
        rw [cut_whole hw]
        exact rp).rd).rd
end

/-! ### range, enumerate -/
section
variable {g : Glob} {F : Ent} {W : WX} {X : Cx} {a b c e o i : Expr} {es : List Expr} {pos : Pos}
def rangeD (lo : Int) (n : Nat) : List D := (List.range n).map fun (k : Nat) => .int (lo + k)
theorem itok_rng {lk} {S : Hp} {mu} {lo : Int} {n : Nat} (hz : n ≤ sizeLine) : ItOk g lk (Itr lo n) S mu (rangeD lo n) := by
  have hl : (rangeD lo n).length = n := by simp [rangeD]
  refine ⟨by rw [hl]; exact hz, fun S1 mu1 H i m h _ hi => by rw [hl] at hi; exact hi, fun S1 mu1 H i m h _ hi => by rw [hl] at hi; exact hi, fun S1 mu1 H i v H' d m h _ hd y => ?_⟩
  obtain ⟨e, ev⟩ := y
  subst e ev
  have : d = .int (lo + i) := by
    unfold rangeD at hd
    rw [List.getElem?_map] at hd
    cases q : (List.range n)[i]? with
    | none => rw [q] at hd; cases hd
    | some j =>
      rw [q] at hd
      have : j = i := by
        rw [List.getElem?_eq_some_iff] at q
        obtain ⟨h1, h2⟩ := q
        simpa using h2.symm
      subst this
      exact (Option.some.inj hd).symm
  subst this
  exact ⟨S1, .refl, .int _⟩
/-- an iterator's run, as rdI asks -/
theorem rdI.of {α β : Type} {T : SS → Env → Hp → Hp → List Addr → β → α → Prop} {m : M α} {f : α → Option (List D)} {σ : SS} {H : Hp} {R : It → Hp → Prop} {Q1 : β → Hp → Prop} (q : rdI g F W (m.bind fun a => M.opt (f a)) σ H R)
    (i : ∀ a v H1 S1 mu1 env1 cs1 ds, Rel g F σ H1 S1 mu1 env1 cs1 → T σ env1 H1 S1 mu1 v a → f a = some ds → (∀ J H' S', Up H1 S1 H' S' → ItOk g F.lk J S' mu1 ds → R J H') → Q1 v H1) : rd g F W T m σ H Q1 := by
  obtain ⟨S, mu, env, cs, r, q⟩ := q
  rw [Post.bind] at q
  refine ⟨S, mu, env, cs, r, q.on fun a env1 cs1 p v H1 S1 mu1 gr r1 t => ?_⟩
  cases e : f a with
  | none => rw [e] at p; exact p.elim
  | some ds =>
    rw [e] at p
    exact i a v H1 S1 mu1 env1 cs1 ds r1 t e fun J H' S' up it => p J H' S' mu1 (gr.trans up.gr) (up.rel r1) it
def rng1D : List D → Option (List D)
  | [.int j] => if decide (-1000000 ≤ j ∧ j ≤ 1000000) then some (rangeD 0 j.toNat) else none
  | _ => none
def rng2D : List D → Option (List D)
  | [.int i, .int j] => if decide (-1000000 ≤ i ∧ i ≤ 1000000 ∧ -1000000 ≤ j ∧ j ≤ 1000000) then some (rangeD i (j - i).toNat) else none
  | _ => none
def mRng1 (m : M (List D)) : M (List D) := m.bind fun ds => M.opt (rng1D ds)
def mRng2 (m : M (List D)) : M (List D) := m.bind fun ds => M.opt (rng2D ds)
theorem sRng1 {p : Pos} {tg : Expr} {m : M (List D)} (hg : Gl X "range") (hm : X.mg "range" = none) (ha : PA X [a] (rdA g F W m)) (hst : ∀ x p, a ≠ .Starred x p) : PI X tg (.Call (.Name "range" p) [a] [] pos) (rdI g F W (mRng1 m)) :=
  PI.imp (pi_range1 hg hm ha (starEach_cons hst)) fun σ H R q => rdI.of (T := TRl g) q fun ds vs H1 S1 mu1 env1 cs1 zs r1 t e k => by
    rcases ds with _ | ⟨d, _ | ⟨d', ds⟩⟩ <;> first | (cases e; done) | (cases d <;> cases e; done) | skip
    · cases d <;> first | (simp [rng1D] at e; done) | skip
      simp only [rng1D] at e
      split at e
      · rename_i hj
        obtain ⟨h1, h2⟩ := of_decide_eq_true hj
        cases e
        cases t with
        | cons t1 t2 =>
          cases t2
          cases t1
          refine ⟨_, rfl, by omega, by omega, k _ _ _ .refl (itok_rng ?_)⟩
          have : sizeLine = 16777216 := rfl
          omega
      · cases e
theorem sRng2 {p : Pos} {tg : Expr} {m : M (List D)} (hg : Gl X "range") (hm : X.mg "range" = none) (ha : PA X [a, b] (rdA g F W m)) (hst : ∀ x p, a ≠ .Starred x p) (hst2 : ∀ x p, b ≠ .Starred x p) : PI X tg (.Call (.Name "range" p) [a, b] [] pos) (rdI g F W (mRng2 m)) :=
  have hz : starEach [b] X.env = [(false, eval b X.env)] := starEach_cons hst2
  PI.imp (pi_range2 hg hm ha (by rw [starEach_cons hst, hz]) hz) fun σ H R q => rdI.of (T := TRl g) q fun ds vs H1 S1 mu1 env1 cs1 zs r1 t e k => by
    rcases ds with _ | ⟨d, _ | ⟨d', _ | ⟨d'', ds⟩⟩⟩ <;> first | (cases e; done) | (cases d <;> cases e; done) | skip
    · cases d <;> cases d' <;> first | (simp [rng2D] at e; done) | skip
      simp only [rng2D] at e
      split at e
      · rename_i hj
        obtain ⟨h1, h2, h3, h4⟩ := of_decide_eq_true hj
        cases e
        cases t with
        | cons t1 t2 =>
          cases t2 with
          | cons t2 t3 =>
            cases t3
            cases t1
            cases t2
            refine ⟨_, _, rfl, by omega, k _ _ _ .refl (itok_rng ?_)⟩
            have : sizeLine = 16777216 := rfl
            omega
      · cases e
    · cases d <;> cases d' <;> cases e
def enumD : Nat → List D → List D
  | _, [] => []
  | n, d :: ds => .tup [.int n, d] :: enumD (n + 1) ds
theorem enumD_get : ∀ (ds : List D) (n i : Nat) (d : D), (enumD n ds)[i]? = some d → ∃ x, ds[i]? = some x ∧ d = .tup [.int ((n + i : Nat) : Int), x]
  | [], _, _, _, e => by simp [enumD] at e
  | x :: ds, n, 0, d, e => by
    refine ⟨x, rfl, ?_⟩
    simp [enumD] at e
    rw [← e]
    rfl
  | x :: ds, n, i + 1, d, e => by
    obtain ⟨y, h1, h2⟩ := enumD_get ds (n + 1) i d (by simpa [enumD] using e)
    refine ⟨y, by simpa using h1, ?_⟩
    rw [h2]
    have : n + 1 + i = n + (i + 1) := by omega
    rw [this]
theorem enumD_len : ∀ (ds : List D) (n : Nat), (enumD n ds).length = ds.length
  | [], _ => rfl
  | _ :: ds, n => by
    unfold enumD
    rw [List.length_cons, List.length_cons, enumD_len]
theorem itok_enum {lk} {S : Hp} {mu} {a : Addr} {vs : List V} {ds : List D} (h1 : S a = some (.lst vs) ∨ KL g.K a vs) (h2 : RpL g S mu vs ds) (hz : vs.length ≤ sizeLine) : ItOk g lk (Ite g.K a) S mu (enumD 0 ds) := by
  have sq : ∀ S1 mu1 H, Mo S mu S1 mu1 → (∀ b u, S1 b = some u → Rd H b u) → SqL g.K H a vs := fun S1 mu1 H m h => by
    rcases h1 with h1 | h1
    · exact .inl (h _ _ (m.s _ _ h1))
    · exact .inr h1
  refine ⟨by rw [enumD_len, ← h2.length]; exact hz, fun S1 mu1 H i m h _ hi => ?_, fun S1 mu1 H i m h _ hi => ⟨vs, sq S1 mu1 H m h, by rw [enumD_len] at hi; rw [h2.length]; exact hi⟩, fun S1 mu1 H i x H' d m h _ hd y => ?_⟩
  · rw [enumD_len] at hi
    obtain ⟨v, hv, _⟩ := h2.get (d := ds[i]) (List.getElem?_eq_getElem hi)
    exact ⟨vs, v, sq S1 mu1 H m h, hv⟩
  · obtain ⟨T, v, rfl, hT, rfl, hv⟩ := y
    obtain ⟨z, hz1, rfl⟩ := enumD_get ds 0 i d hd
    obtain ⟨w, hw, rw'⟩ := h2.get hz1
    have := hv vs (sq S1 mu1 H m h)
    rw [hw] at this
    cases this
    have hn : S1 T = none := by
      cases e : S1 T with
      | none => rfl
      | some u =>
        obtain ⟨o, ho⟩ := rdHas (h T u e)
        rw [hT] at ho; cases ho
    refine ⟨upd S1 T (.tup [.int (i : Nat), v]), Up.newS hT hn, .tup (.inl upd_same) (.cons ?_ (.cons ((rw'.mono m).mono (Mo.new hn)) .nil))⟩
    have : ((0 + i : Nat) : Int) = ((i : Nat) : Int) := by rw [Nat.zero_add]
    rw [this]
    exact .int _
def enD : List D → Option (List D)
  | [.lst ds] => if ds.length ≤ sizeLine then some (enumD 0 ds) else none
  | _ => none
def mEnum (m : M (List D)) : M (List D) := m.bind fun ds => M.opt (enD ds)
theorem sEnum {elts : List Expr} {kk : Nat} {tpos : Pos} {p : Pos} {m : M (List D)} (hK : X.K = g.K) (hg : Gl X "enumerate") (hm : X.mg "enumerate" = none) (ha : PA X [a] (rdA g F W m)) (hst : ∀ x p, a ≠ .Starred x p) : PI X (.Tuple elts kk tpos) (.Call (.Name "enumerate" p) [a] [] pos) (rdI g F W (mEnum m)) :=
  PI.imp (pi_enum hg hm ha (starEach_cons hst)) fun σ H R q => rdI.of (T := TRl g) q fun ds vs H1 S1 mu1 env1 cs1 zs r1 t e k => by
    rcases ds with _ | ⟨d, _ | ⟨d', ds⟩⟩ <;> first | (cases e; done) | (cases d <;> cases e; done) | skip
    · cases d <;> first | (simp [enD] at e; done) | skip
      simp only [enD] at e
      split at e
      · rename_i hj
        cases e
        cases t with
        | cons t1 t2 =>
          cases t2
          obtain ⟨a, xs, rfl, h1, h2⟩ := Vw.lst r1.hs (.inl t1)
          cases t1 with
          | lst h3 h4 =>
            have e : _ = xs.length := h4.length.trans h2.length.symm
            exact ⟨_, _, rfl, hK.symm ▸ h1, by rw [hK]; exact k _ _ _ .refl (itok_enum h3 h4 (by rw [h4.length]; exact hj))⟩
      · cases e
end
end EL
namespace EL
open PySem PySem.Spec L2

/-! ### objects that change in place -/
/-- by a name: its own object, or the cell that it is bound to -/
def mMut {α : Type} (ip : Nat) (f : D → Option (α × D)) : M α := fun env cs => match env[ip]? with
  | some (.ow d) => match f d with
    | some (y, d') => .ok y (env.set ip (.ow d')) cs
    | none => .stuck
  | some (.fz (.cell n)) => match cs[n]? with
    | some d => match f d with
      | some (y, d') => .ok y env (cs.set n d')
      | none => .stuck
    | none => .stuck
  | _ => .stuck
section
variable {g : Glob} {F : Ent} {W : WX} {X : Cx} {a b c e o i : Expr} {es : List Expr} {pos : Pos} {σ : SS} {H S : Hp} {mu : List Addr} {env : Env} {cs : Cells}
theorem At.nofrz {a : Addr} {d : D} {ob u} (x : At g H S mu a d) (h : H a = some (.frz ob u)) : False := by
  cases d <;> first | exact x.elim | skip
  all_goals (first | (obtain ⟨_, e, _⟩ := x; rw [h] at e; cases e; done) | (obtain ⟨_, _, e, _⟩ := x; rw [h] at e; cases e))
theorem HS.other (h : HS g H S mu cs) {a : Addr} {o : HO} (ha : S a = none) (hm : a ∉ mu) : HS g (L2.upd H a o) S mu cs := by
  refine ⟨fun b u e => ?_, h.len, h.nd, fun i b c e1 e2 => ?_⟩
  · exact rdKeep (h.sub b u e) fun x hx => by rw [upd_ne (ne_of_none e ha)]; exact hx
  · obtain ⟨k1, k2⟩ := h.cell i b c e1 e2
    have hb : b ≠ a := fun z => hm (z ▸ List.mem_iff_getElem?.mpr ⟨i, e1⟩)
    exact ⟨k1, k2.keep .refl fun x hx => by rw [upd_ne hb]; exact hx⟩
theorem _root_.List.Nodup.inj_ix {α : Type} : ∀ {l : List α} (_ : l.Nodup) {i j : Nat} (hi : i < l.length) (hj : j < l.length), l[i] = l[j] → i = j
  | [], _, _, _, hi, _, _ => nomatch hi
  | x :: l, h, 0, 0, _, _, _ => rfl
  | x :: l, h, 0, j + 1, _, hj, e => by
    rw [List.nodup_cons] at h
    simp at e
    exact (h.1 (e ▸ List.getElem_mem _)).elim
  | x :: l, h, i + 1, 0, hi, _, e => by
    rw [List.nodup_cons] at h
    simp at e
    exact (h.1 (e ▸ List.getElem_mem _)).elim
  | x :: l, h, i + 1, j + 1, hi, hj, e => by
    rw [List.nodup_cons] at h
    have := List.Nodup.inj_ix h.2 (i := i) (j := j) (by simpa using hi) (by simpa using hj) (by simpa using e)
    omega
theorem Rel.cellUpd (r : Rel g F σ H S mu env cs) {n : Nat} {a : Addr} {o : HO} {d' : D} (hn : mu[n]? = some a) (h : At g (L2.upd H a o) S mu a d') : Rel g F σ (L2.upd H a o) S mu env (cs.set n d') := by
  obtain ⟨c, hc, hS, hA⟩ := r.hs.cellAt hn
  have hm : a ∈ mu := List.mem_iff_getElem?.mpr ⟨n, hn⟩
  have hlt : n < cs.length := (List.getElem?_eq_some_iff.mp hc).1
  refine ⟨⟨fun b u e => ?_, by rw [List.length_set]; exact r.hs.len, r.hs.nd, fun i b c' e1 e2 => ?_⟩, ⟨r.fi.mo, fun b x e hb => ?_, r.fi.n, r.fi.t, fun p hp => ?_, fun b hb => ?_⟩, r.len, r.fz, fun i d e => ?_, r.sep⟩
  · exact rdKeep (r.hs.sub b u e) fun x hx => by rw [upd_ne (ne_of_none e hS)]; exact hx
  · by_cases hi : n = i
    · subst hi
      rw [hn] at e1
      cases e1
      rw [List.getElem?_set_self hlt] at e2
      cases e2
      exact ⟨hS, h⟩
    · rw [List.getElem?_set_ne hi] at e2
      obtain ⟨k1, k2⟩ := r.hs.cell i b c' e1 e2
      have hb : b ≠ a := fun z => by
        subst z
        have h1 : i < mu.length := (List.getElem?_eq_some_iff.mp e1).1
        have h2 : n < mu.length := (List.getElem?_eq_some_iff.mp hn).1
        have z1 : mu[i] = b := (List.getElem?_eq_some_iff.mp e1).2
        have z2 : mu[n] = b := (List.getElem?_eq_some_iff.mp hn).2
        exact hi (r.hs.nd.inj_ix h2 h1 (z2.trans z1.symm))
      exact ⟨k1, k2.keep .refl fun x hx => by rw [upd_ne hb]; exact hx⟩
  · by_cases hba : b = a
    · subst hba
      rcases r.fi.n b hm with z | z
      · exact absurd z hb
      · rw [z] at e; cases e
    · rw [upd_ne hba]
      exact r.fi.h b x e hb
  · by_cases hba : p.1 = a
    · exact (hA.nofrz (hba ▸ r.fi.l p hp)).elim
    · rw [upd_ne hba]
      exact r.fi.l p hp
  · obtain ⟨k1, k2, k3, x, k4⟩ := r.fi.r b hb
    have hba : b ≠ a := fun z => k2 (z ▸ hm)
    exact ⟨k1, k2, k3, x, by rw [upd_ne hba]; exact k4⟩
  · obtain ⟨b, k1, k2, k3, k4, k5⟩ := r.ow i d e
    have hba : b ≠ a := fun z => k3 (z ▸ hm)
    exact ⟨b, k1, k2, k3, k4, k5.keep .refl fun x hx => by rw [upd_ne hba]; exact hx⟩
theorem Rel.owUpd (r : Rel g F σ H S mu env cs) {ip : Nat} {a : Addr} {o : HO} {d d' : D} (he : env[ip]? = some (.ow d)) (ha : σ[ip]? = some (some (.ref a))) (h : At g (L2.upd H a o) S mu a d') : Rel g F σ (L2.upd H a o) S mu (env.set ip (.ow d')) cs := by
  obtain ⟨a', j1, hS, hm, ⟨hF, hrs⟩, hA⟩ := r.ow ip d he
  rw [ha] at j1
  cases j1
  have hlt : ip < env.length := (List.getElem?_eq_some_iff.mp he).1
  have old : ∀ (j : Nat) (s : Slot), (env.set ip (.ow d'))[j]? = some s → (j = ip ∧ s = .ow d') ∨ (j ≠ ip ∧ env[j]? = some s) := fun j s e => by
    by_cases hj : j = ip
    · subst hj
      rw [List.getElem?_set_self hlt] at e
      exact .inl ⟨rfl, (Option.some.inj e).symm⟩
    · rw [List.getElem?_set_ne (Ne.symm hj)] at e
      exact .inr ⟨hj, e⟩
  refine ⟨r.hs.other hS hm, ⟨r.fi.mo, fun b x e hb => ?_, r.fi.n, r.fi.t, fun p hp => ?_, fun b hb => ?_⟩, by rw [List.length_set]; exact r.len, fun j x e => ?_, fun j x e => ?_, fun j k x y b e1 e2 h1 h2 => ?_⟩
  · rw [upd_ne (ne_of_none e hF)]
    exact r.fi.h b x e hb
  · by_cases hba : p.1 = a
    · exact (hA.nofrz (hba ▸ r.fi.l p hp)).elim
    · rw [upd_ne hba]
      exact r.fi.l p hp
  · obtain ⟨k1, k2, k3, x, k4⟩ := r.fi.r b hb
    have hba : b ≠ a := fun z => hrs (z ▸ hb)
    exact ⟨k1, k2, k3, x, by rw [upd_ne hba]; exact k4⟩
  · rcases old j _ e with ⟨rfl, q⟩ | ⟨hj, q⟩
    · cases q
    · exact r.fz j x q
  · rcases old j _ e with ⟨rfl, q⟩ | ⟨hj, q⟩
    · cases q
      exact ⟨a, ha, hS, hm, ⟨hF, hrs⟩, h⟩
    · obtain ⟨b, k1, k2, k3, k4, k5⟩ := r.ow j x q
      have hba : b ≠ a := fun z => hj (r.sep j ip x d a q he (z ▸ k1) ha)
      exact ⟨b, k1, k2, k3, k4, k5.keep .refl fun x hx => by rw [upd_ne hba]; exact hx⟩
  · have t : ∀ (j : Nat) x, (env.set ip (.ow d'))[j]? = some (.ow x) → ∃ x', env[j]? = some (.ow x') := fun j x e => by
      rcases old j _ e with ⟨rfl, _⟩ | ⟨_, q⟩
      · exact ⟨d, he⟩
      · exact ⟨x, q⟩
    obtain ⟨x', q1⟩ := t j x e1
    obtain ⟨y', q2⟩ := t k y e2
    exact r.sep j k x' y' b q1 q2 h1 h2
theorem mut_post {α : Type} {ip : Nat} {f : D → Option (α × D)} {v : V} {K : α → Env → Cells → Prop} {KX : Nat → List (Str × D) → Env → Cells → Prop} (r : Rel g F σ H S mu env cs) (p : Post (mMut ip f env cs) K KX) (hv : σ[ip]? = some (some v)) :
    ∃ a d y d' env' cs', v = .ref a ∧ At g H S mu a d ∧ f d = some (y, d') ∧ K y env' cs' ∧ ∀ o, At g (L2.upd H a o) S mu a d' → Rel g F σ (L2.upd H a o) S mu env' cs' := by
  unfold mMut at p
  cases e : env[ip]? with
  | none => rw [e] at p; exact p.elim
  | some s =>
    rw [e] at p
    cases s with
    | no => exact p.elim
    | ow d =>
      cases e2 : f d with
      | none => simp only [e2] at p; exact p.elim
      | some z =>
        obtain ⟨y, d'⟩ := z
        simp only [e2] at p
        obtain ⟨a, k1, k2, k3, k4, k5⟩ := r.ow ip d e
        rw [hv] at k1
        cases k1
        exact ⟨a, d, y, d', _, _, rfl, k5, e2, p, fun o h => r.owUpd e hv h⟩
    | fz d =>
      cases d <;> first | exact p.elim | skip
      rename_i n
      obtain ⟨w, h1, h2⟩ := r.fz ip _ e
      rw [hv] at h1
      cases h1
      cases h2 with
      | cell hn =>
        obtain ⟨c, hc, hS, hA⟩ := r.hs.cellAt hn
        simp only [hc] at p
        cases e2 : f c with
        | none => simp only [e2] at p; exact p.elim
        | some z =>
          obtain ⟨y, d'⟩ := z
          simp only [e2] at p
          exact ⟨_, c, y, d', _, _, rfl, hA, e2, p, fun o h => r.cellUpd hn h⟩

/-! ### o[i] = e -/
@[simp] def setD (k x : D) : D → Option (Unit × D)
  | .lst ds => match k with
    | .int i => (ixN ds.length i).map fun j => ((), .lst (ds.set j x))
    | _ => none
  | _ => none
def mSetI (ip : Nat) (mi me : M D) : M Fl := me.bind fun x => (mPeek ip).bind fun _ => mi.bind fun k => (mMut ip (setD k x)).bind fun _ => M.pure .nx
/-- what a store at a name's object does -/
theorem set_item {ip : Nat} {k x : D} {w v iv : V} {K : Unit → Env → Cells → Prop} {KX : Nat → List (Str × D) → Env → Cells → Prop} {Q : Hp → Prop} (r : Rel g F σ H S mu env cs) (p : Post (mMut ip (setD k x) env cs) K KX) (hw : σ[ip]? = some (some w)) (ri : Vo g H S mu iv k) (rx : Rp g S mu v x)
    (q : ∀ env' cs' H', K () env' cs' → Rel g F σ H' S mu env' cs' → Q H') : rSetL w iv v H Q := by
  obtain ⟨a, d, y, d', env', cs', rfl, hA, hf, hk, hr⟩ := mut_post r p hw
  cases d <;> first | (cases hf; done) | skip
  rename_i ds
  cases k <;> first | (cases hf; done) | skip
  rename_i i
  have hf : (ixN ds.length i).map (fun j => ((), D.lst (ds.set j x))) = some (y, d') := hf
  cases hj : ixN ds.length i with
  | none => rw [hj] at hf; cases hf
  | some j =>
    rw [hj] at hf
    cases hf
    obtain ⟨vs, h1, h2⟩ := hA
    have hi : iv = .int i := (Vo.dr r.hs ri rfl).int
    refine ⟨a, vs, i, j, rfl, hi, h1, by rw [h2.length]; exact hj, q _ _ _ hk (hr _ ⟨_, upd_same, RpL.set rx j h2⟩)⟩
theorem post_peek {ip : Nat} {K : D → Env → Cells → Prop} {KX : Nat → List (Str × D) → Env → Cells → Prop} (r : Rel g F σ H S mu env cs) (p : Post (mPeek ip env cs) K KX) : ∃ v d, σ[ip]? = some (some v) ∧ K d env cs := by
  unfold mPeek at p
  cases e1 : env[ip]? with
  | none => rw [e1] at p; exact p.elim
  | some sl =>
    rw [e1] at p
    cases sl with
    | no => exact p.elim
    | fz d =>
      obtain ⟨v, h1, h2⟩ := r.fz ip d e1
      exact ⟨v, d, h1, p⟩
    | ow d =>
      obtain ⟨a, h1, h2, h3, h4, h5⟩ := r.ow ip d e1
      exact ⟨_, d, h1, p⟩
theorem PoS.exG {α β : Type} {E : Ends} {T : SS → Env → Hp → Hp → List Addr → β → α → Prop} {m : M α} {f : α → M Fl} {Q : β → Hp → Prop} (r : Rel g F σ H S mu env cs) (p : PoS g F W E (m.bind f) env cs)
    (i : ∀ a env1 cs1 v H1 S1 mu1, Gr H S mu H1 S1 mu1 → Rel g F σ H1 S1 mu1 env1 cs1 → T σ env1 H1 S1 mu1 v a → PoS g F W E (f a) env1 cs1 → Q v H1) : rd g F W T m σ H Q := by
  rw [PoS.bind] at p
  exact ⟨S, mu, env, cs, r, Post.mono p (fun a e c p v H' S' mu' gr rl t => i a e c v H' S' mu' gr rl t p) fun k fs e c z => z σ⟩
theorem sSetI {ip : Nat} {mi me : M D} {p2 : Pos} (ho : PE X o (tVar ip)) (hi : PE X i (rdO g F W mi)) (he : PE X e (rdZ g F W me)) (hs : swapsWithSole [.Subscript o i p2] e pos.line X.env = pure false) (hw : swappedStores [.Subscript o i p2] e X.env = pure none)
    (ha : ∀ v, assign (.Subscript o i p2) X.env v = (do
      let ov ← holding [v] (eval o X.env)
      let iv ← holding [v, ov] (eval i X.env)
      standAt p2
      holding [v, ov, iv] (setItem ov iv v)
      release [v, ov, iv] [])) : PS X (.Assign [.Subscript o i p2] e pos) (rdS g F W (mSetI ip mi me)) :=
  PS.imp (ps_asg he (pg_sub ho hi set_list ha) hs hw) fun E σ H q => rdS.ex q fun x env1 cs1 v H1 S1 mu1 r1 t1 p1 => by
    rw [PoS.bind] at p1
    obtain ⟨w, d, hw, p1⟩ := post_peek r1 p1
    refine ⟨w, hw, PoS.exG r1 p1 fun k env2 cs2 iv H2 S2 mu2 gr2 r2 t2 p2 => ?_⟩
    rw [PoS.bind] at p2
    exact set_item r2 p2 hw t2 (t1.mono gr2.mo) fun env' cs' H' k r3 => k σ H' S2 mu2 r3

/-- o[i], name = e, e a pair -/
def mPot (ip jd : Nat) (mi me : M D) : M Fl := me.bind fun x => match x with
  | .tup [a, b] => (mPeek ip).bind fun _ => mi.bind fun k => (mMut ip (setD k a)).bind fun _ => (mPut jd (b, false)).bind fun _ => M.pure .nx
  | _ => M.stuck
theorem sPot {ip jd : Nat} {mi me : M D} {p2 pd pt : Pos} {y : Str} {kt : Nat} (hK : X.K = g.K) (hc : X.calm = true) (ho : PE X o (tVar ip)) (hi : PE X i (rdO g F W mi)) (he : PE X e (rdZ g F W me)) (hN : X.N.Nodup) (hy : X.N[jd]? = some y) (hx : Loc X.env.scope y) (hf : X.fn y = true ∨ X.env.scope.names.lookup y = some .local)
    (hs : swapsWithSole [.Tuple [.Subscript o i p2, .Name y pd] kt pt] e pos.line X.env = pure false) (hw : swappedStores [.Tuple [.Subscript o i p2, .Name y pd] kt pt] e X.env = pure none)
    (ha : ∀ v, assign (.Subscript o i p2) X.env v = (do
      let ov ← holding [v] (eval o X.env)
      let iv ← holding [v, ov] (eval i X.env)
      standAt p2
      holding [v, ov, iv] (setItem ov iv v)
      release [v, ov, iv] [])) : PS X (.Assign [.Tuple [.Subscript o i p2, .Name y pd] kt pt] e pos) (rdS g F W (mPot ip jd mi me)) :=
  PS.imp (ps_asg he (pg_tup (n := 2) hc (pgs_cons (pg_sub ho hi set_list ha) (pgs_cons (pg_name hN hy hx hf) pgs_nil))) hs hw) fun E σ H q => rdS.ex q fun x env1 cs1 v H1 S1 mu1 r1 t1 p1 => by
    have hx : ∃ a b, x = .tup [a, b] := by
      rcases x with _ | _ | _ | _ | _ | (_ | ⟨a, _ | ⟨b, _ | ⟨c, ds⟩⟩⟩) | _ | _ | _ <;> first | exact ⟨_, _, rfl⟩ | exact p1.elim
    obtain ⟨a, b, rfl⟩ := hx
    have p1 : PoS g F W E ((mPeek ip).bind fun _ => mi.bind fun k => (mMut ip (setD k a)).bind fun _ => (mPut jd (b, false)).bind fun _ => M.pure .nx) env1 cs1 := p1
    obtain ⟨ad, xs, rfl, h1, h2⟩ := Vw.tup r1.hs (.inl t1)
    cases h2 with
    | cons ta h2 =>
      cases h2 with
      | cons tb h2 =>
        cases h2
        rename_i va vb
        refine ⟨ad, _, rfl, hK.symm ▸ h1, rfl, va, [vb], rfl, ?_⟩
        rw [PoS.bind] at p1
        obtain ⟨w, d, hw, p1⟩ := post_peek r1 p1
        refine ⟨w, hw, PoS.exG r1 p1 fun k env2 cs2 iv H2 S2 mu2 gr2 r2 t2 p2 => ?_⟩
        rw [PoS.bind] at p2
        refine set_item r2 p2 hw t2 (ta.mono gr2.mo) fun env' cs' H' k r3 => ?_
        obtain ⟨hl, p3⟩ := PoS.put k
        exact ⟨vb, [], rfl, rfl, p3 _ H' S2 mu2 (r3.putZ hl (tb.mono gr2.mo))⟩
end

/-! ### new objects that become cells -/
section
variable {g : Glob} {F : Ent} {W : WX} {X : Cx} {a b c e o i : Expr} {es : List Expr} {pos : Pos} {σ : SS} {H S : Hp} {mu : List Addr} {env : Env} {cs : Cells}
abbrev TNew (g : Glob) (F : Ent) (H : Hp) : SS → Env → Hp → Hp → List Addr → V → D × Bool → Prop := fun σ env H' S' mu' v r => TRes g F σ env H' S' mu' v r ∧ (r.2 = true → ∃ a, v = .ref a ∧ H a = none)
def rdN (g : Glob) (F : Ent) (W : WX) (m : M (D × Bool)) : TE := fun σ H Q => ∃ S mu env cs, RA g F W (TNew g F H) m σ H S mu env cs Q
theorem RA.mono {α β : Type} {T T' : SS → Env → Hp → Hp → List Addr → β → α → Prop} {m : M α} {Q : β → Hp → Prop} (h : RA g F W T m σ H S mu env cs Q) (i : ∀ σ env H S mu v a, T' σ env H S mu v a → T σ env H S mu v a) : RA g F W T' m σ H S mu env cs Q :=
  ⟨h.1, h.2.on fun a e c k v H' S' mu' gr r t => k v H' S' mu' gr r (i _ _ _ _ _ _ _ t)⟩
theorem sNE {m : M (D × Bool)} (h : PE X e (rdN g F W m)) : PE X e (rdE g F W m) := PE.imp h fun σ H Q ⟨S, mu, env, cs, ra⟩ => ⟨S, mu, env, cs, ra.mono fun _ _ _ _ _ _ _ t => t.1⟩
def mCell (m : M (D × Bool)) : M D := m.bind fun r env cs => if r.2 then .ok (.cell cs.length) env (cs ++ [r.1]) else .stuck
theorem sCell {m : M (D × Bool)} (h : PE X e (rdN g F W m)) : PE X e (rdZ g F W (mCell m)) := PE.imp h fun σ H Q ⟨S, mu, env, cs, r, q⟩ => by
  unfold mCell at q
  rw [Post.bind] at q
  refine ⟨S, mu, env, cs, r, q.on fun x env1 cs1 k v H1 S1 mu1 gr r1 ⟨t, hn⟩ => ?_⟩
  obtain ⟨d, fr⟩ := x
  cases fr with
  | false =>
    have k : Post (if false = true then R.ok (D.cell cs1.length) env1 (cs1 ++ [d]) else .stuck) _ _ := k
    rw [if_neg (by decide)] at k
    exact k.elim
  | true =>
    have k : Post (if true = true then R.ok (D.cell cs1.length) env1 (cs1 ++ [d]) else .stuck) _ _ := k
    rw [if_pos rfl] at k
    obtain ⟨a, rfl, h1, h2, ⟨h3, h3'⟩, h4, h5⟩ := t
    obtain ⟨a', e', hH⟩ := hn rfl
    cases e'
    have k : KOf g F σ H S mu (TRp g σ) Q (.cell cs1.length) env1 (cs1 ++ [d]) := k
    have m1 : Mo S1 mu1 S1 (mu1 ++ [a]) := ⟨fun _ _ h => h, fun i b e => by
      rw [List.getElem?_append_left (List.getElem?_eq_some_iff.mp e).1]; exact e⟩
    have hl : mu1.length = cs1.length := r1.hs.len
    refine k _ H1 S1 (mu1 ++ [a]) ⟨gr.mo.trans m1, gr.h, fun b hb => ?_⟩ ⟨⟨r1.hs.sub, by simp [hl], ?_, fun i b c e1 e2 => ?_⟩, ⟨r1.fi.mo.trans m1, r1.fi.h, fun b hb => ?_, r1.fi.t, r1.fi.l, fun b hb => ?_⟩, r1.len, fun i x e => ?_, fun i x e => ?_, r1.sep⟩ (.cell ?_)
    · rcases List.mem_append.mp hb with z | z
      · exact gr.n b z
      · obtain rfl : b = a := by simpa using z
        exact .inr hH
    · rw [List.nodup_append]
      refine ⟨r1.hs.nd, by simp, fun x hx y hy => ?_⟩
      obtain rfl : y = a := by simpa using hy
      rintro rfl
      exact h2 hx
    · by_cases hi : i < mu1.length
      · rw [List.getElem?_append_left hi] at e1
        rw [List.getElem?_append_left (by omega)] at e2
        obtain ⟨k1, k2⟩ := r1.hs.cell i b c e1 e2
        exact ⟨k1, k2.keep m1 fun _ h => h⟩
      · have hi2 : i = mu1.length := by
          have := (List.getElem?_eq_some_iff.mp e1).1
          simp at this
          omega
        subst hi2
        rw [List.getElem?_append_right (Nat.le_refl _)] at e1
        rw [hl, List.getElem?_append_right (Nat.le_refl _)] at e2
        simp at e1 e2
        subst e1 e2
        exact ⟨h1, h4.keep m1 fun _ h => h⟩
    · rcases List.mem_append.mp hb with z | z
      · exact r1.fi.n b z
      · obtain rfl : b = a := by simpa using z
        exact .inr h3
    · obtain ⟨k1, k2, k3, k4⟩ := r1.fi.r b hb
      refine ⟨k1, fun z => ?_, k3, k4⟩
      rcases List.mem_append.mp z with z | z
      · exact k2 z
      · obtain rfl : b = a := by simpa using z
        exact h3' hb
    · obtain ⟨v, k1, k2⟩ := r1.fz i x e
      exact ⟨v, k1, k2.mono m1⟩
    · obtain ⟨b, k1, k2, k3, k4, k5⟩ := r1.ow i x e
      refine ⟨b, k1, k2, fun z => ?_, k4, k5.keep m1 fun _ h => h⟩
      rcases List.mem_append.mp z with z | z
      · exact k3 z
      · obtain rfl : b = a := by simpa using z
        exact h5 i x e k1
    · rw [← hl, List.getElem?_append_right (Nat.le_refl _)]
      simp
/-- what is new behind a start is new -/
theorem Gr.none {H1 S1 : Hp} {mu1 : List Addr} {cs1 : Cells} (gr : Gr H S mu H1 S1 mu1) (hs1 : HS g H1 S1 mu1 cs1) {p : Addr} (h : H1 p = none) : H p = none := by
  cases e : H p with
  | none => rfl
  | some o =>
    by_cases hm : p ∈ mu
    · obtain ⟨j, hj⟩ := List.mem_iff_getElem?.mp hm
      obtain ⟨_, z⟩ := hs1.inMu (List.mem_iff_getElem?.mpr ⟨j, gr.mo.m j p hj⟩)
      obtain ⟨o, z⟩ := z
      rw [h] at z; cases z
    · rw [gr.h p o e hm] at h; cases h

/-! ### calls, with what is new -/
theorem RA.callN {H0 : Hp} {φ : Phi} {ds : List D} {vs : List V} {Q : VK} {n : Nat} (h0 : ∀ p, H p = none → H0 p = none)
    (h : RA g F W (TNew g F H0) (mPhi φ ds) σ H S mu env cs Q) (rl : RpL g S mu vs ds) (hn : vs.length = n) : spF g n φ vs H Q (EOf W σ) := by
  obtain ⟨r, q⟩ := h
  refine ⟨hn, S, mu, cs, ds, r.hs, rl, ?_⟩
  unfold mPhi at q
  cases e : φ ds cs with
  | stuck => simp only [e] at q; exact q
  | ok d fr c =>
    simp only [e] at q
    refine fun v H' S' mu' a x => q v H' S' mu' a.gr (a.rel r) ⟨ResF.res (cs' := c) r x, fun hf => ?_⟩
    have hf : fr = true := hf
    subst hf
    obtain ⟨p, e1, e2, _⟩ := x
    exact ⟨p, e1, h0 p e2⟩
  | exc k fs c =>
    simp only [e] at q
    exact fun dx H' S' mu' a x => q dx H' S' mu' (a.rel r) x
theorem sCallN {k n : Nat} {f : Addr} {fd : FuncData} {ps ks : List Str} {x : Str} {p pos : Pos} {e : Expr} {es : List Expr} {kws : List Keyword} {mp mk : M (List D)} {sh : List Src} {φ : Phi} {gU : List Value → List Value → List Value}
    (G : FnG X.prog X.w X.K X.mg X.base (L2.CX X.prog X.w) k f fd ps (spF g ps.length φ)) (hr : Room k X.A) (hgd : X.A.guards = some []) (tk : Takes X W) (hg : Gl X x) (hm : X.mg x = some (.ref f)) (hk : PySem.W.keepIn X.K (.ref f) = true) (hb : KBn X.K fd ps n ks gU (arrV sh)) (hsh : sh.length = ps.length) (hd : DflOk g sh)
    (ha : PA X (e :: es) (rdA g F W mp)) (hkw : PK X kws (rdA g F W mk)) (hp : Many n mp) (hq : Many ks.length mk) (hall : (backToKw pos (keywordEach kws X.env)).all (·.1.isSome) = true) (hks : (backToKw pos (keywordEach kws X.env)).filterMap (·.1) = ks)
    (hdb : (x == ("__debug__" : Str)) = false) (hst : ∀ x p, e ≠ .Starred x p) (hpl : ((backTo pos (starEach (e :: es) X.env)).any (·.1) || (backToKw pos (keywordEach kws X.env)).any (·.1.isNone)) = false) :
    PE X (.Call (.Name x p) (e :: es) kws pos) (rdN g F W (mCall φ sh mp mk)) :=
  PE.imp (pe_callG G hr hgd hg hm hk hb ha hkw hall hks hdb hst hpl) fun σ H Q ⟨S, mu, env, cs, ra⟩ => by
    refine (RA.many (T := TRl g) hp ra fun ds env1 cs1 vs H1 S1 mu1 gr t l1 r1 => (RA.many (T := TRl g) hq r1 fun es env2 cs2 zs H2 S2 mu2 gr2 t2 l2 r2 => ?_).rd).rd
    refine ⟨by rw [t.length, l1], by rw [t2.length, l2], EOf W σ, pass_at tk, ?_⟩
    exact RA.callN (fun p hp => (gr.trans gr2).none r2.1.hs hp) r2 (arr_rp (t.mono gr2.mo) t2 sh hd) (by unfold arrV; rw [List.length_map, hsh])
theorem sCallN0 {k : Nat} {f : Addr} {fd : FuncData} {ps ks : List Str} {x : Str} {p pos : Pos} {kws : List Keyword} {mk : M (List D)} {sh : List Src} {φ : Phi} {gU : List Value → List Value → List Value}
    (G : FnG X.prog X.w X.K X.mg X.base (L2.CX X.prog X.w) k f fd ps (spF g ps.length φ)) (hr : Room k X.A) (hgd : X.A.guards = some []) (tk : Takes X W) (hg : Gl X x) (hm : X.mg x = some (.ref f)) (hk : PySem.W.keepIn X.K (.ref f) = true) (hb : KBn X.K fd ps 0 ks gU (arrV sh)) (hsh : sh.length = ps.length) (hd : DflOk g sh)
    (hkw : PK X kws (rdA g F W mk)) (hq : Many ks.length mk) (hall : (backToKw pos (keywordEach kws X.env)).all (·.1.isSome) = true) (hks : (backToKw pos (keywordEach kws X.env)).filterMap (·.1) = ks)
    (hdb : (x == ("__debug__" : Str)) = false) (hpl : ((backTo pos (starEach [] X.env)).any (·.1) || (backToKw pos (keywordEach kws X.env)).any (·.1.isNone)) = false) :
    PE X (.Call (.Name x p) [] kws pos) (rdN g F W (mCall φ sh (M.pure []) mk)) :=
  PE.imp (pe_callG0 G hr hgd hg hm hk hb hkw hall hks hdb hpl) fun σ H Q ⟨S, mu, env, cs, ra⟩ => by
    refine (RA.many (T := TRl g) (f := fun es => mPhi φ (arrD sh [] es)) hq ra fun es env2 cs2 zs H2 S2 mu2 gr2 t2 l2 r2 => ?_).rd
    refine ⟨by rw [t2.length, l2], EOf W σ, pass_at tk, ?_⟩
    exact RA.callN (fun p hp => gr2.none r2.1.hs hp) r2 (arr_rp .nil t2 sh hd) (by unfold arrV; rw [List.length_map, hsh])
end
end EL
namespace EL
open PySem PySem.Spec L2

/-! ### what is bound -/
def arrU (o : Nat) (its us ws : List Value) : Nat → List Src → List Value
  | _, [] => []
  | j, .p i :: r => us.getD i .none :: arrU o its us ws (j + 1) r
  | j, .k i :: r => ws.getD i .none :: arrU o its us ws (j + 1) r
  | j, .d _ _ :: r => its.getD (j - o) .none :: arrU o its us ws (j + 1) r
def ShOk (o : Nat) (dvs : List V) : Nat → List Src → Prop
  | _, [] => True
  | j, .d v _ :: r => dvs[j - o]? = some v ∧ ShOk o dvs (j + 1) r
  | j, _ :: r => ShOk o dvs (j + 1) r
theorem Vals.getD' : ∀ {vs : List V} {us : List Value} (i : Nat), Vals vs us → RelV (vs.getD i .non) (us.getD i .none)
  | _, _, _, .nil => rfl
  | _, _, 0, .cons h _ => h
  | _, _, i + 1, .cons _ r => Vals.getD' i r
theorem arr_rel {o : Nat} {dvs vs zs : List V} {its us ws : List Value} (hd : Vals dvs its) (h1 : Vals vs us) (h2 : Vals zs ws) : ∀ (j : Nat) (sh : List Src), ShOk o dvs j sh → Vals (arrV sh vs zs) (arrU o its us ws j sh)
  | _, [], _ => .nil
  | j, .p i :: r, h => .cons (Vals.getD' i h1) (arr_rel hd h1 h2 (j + 1) r h)
  | j, .k i :: r, h => .cons (Vals.getD' i h2) (arr_rel hd h1 h2 (j + 1) r h)
  | j, .d v x :: r, h => .cons (by
      have := Vals.getD' (j - o) hd
      rw [show dvs.getD (j - o) .non = v by rw [List.getD_eq_getElem?_getD, h.1]; rfl] at this
      exact this) (arr_rel hd h1 h2 (j + 1) r h.2)
section
variable {K : PySem.W.Frag} {x qual : Str} {params : Arguments} {body : List Stmt} {scope : Scope} {dvs : List V} {kws : List (Str × V)} {f : Addr} {fd : FuncData} {ps : List Str}
/-- no defaults -/
theorem kb0 (F : FunD K x qual params body scope [] kws f fd) (n : Nat) (ks : List Str) (sh : List Src) (hs : ShOk 0 [] 0 sh)
    (h : ∀ (kV doc pm : Value) (an : Option Addr) (cdv ct : Value) (us ws : List Value), us.length = n → ws.length = ks.length → bindArgs (PySem.W.fnOf x qual params body scope .none kV doc pm an cdv ct) ⟨us, ks.zip ws⟩ = pure (ps.zip (arrU 0 [] us ws 0 sh))) :
    ∃ gU, KBn K fd ps n ks gU (arrV sh) := by
  obtain ⟨oc, od, dV, kV, doc, pm, an, cdv, ct, osl, rfl, lk, hcd, hD, hK⟩ := F.ex
  rcases hD with ⟨_, rfl⟩ | ⟨e, _⟩
  · exact ⟨fun us ws => arrU 0 [] us ws 0 sh, ⟨fun s us ws _ h1 h2 => .of_eq (h kV doc pm an cdv ct us ws h1 h2), fun r1 r2 => arr_rel .nil r1 r2 0 sh hs⟩⟩
  · exact absurd rfl e
/-- .. with defaults, all written -/
theorem kbD0 (F : FunD K x qual params body scope dvs kws f fd) (n : Nat) (ks : List Str) (sh : List Src) (hs : ShOk 0 [] 0 sh)
    (h : ∀ (dV kV doc pm : Value) (an : Option Addr) (cdv ct : Value) (us ws : List Value), us.length = n → ws.length = ks.length → bindArgs (PySem.W.fnOf x qual params body scope dV kV doc pm an cdv ct) ⟨us, ks.zip ws⟩ = pure (ps.zip (arrU 0 [] us ws 0 sh))) :
    ∃ gU, KBn K fd ps n ks gU (arrV sh) := by
  obtain ⟨oc, od, dV, kV, doc, pm, an, cdv, ct, osl, rfl, lk, hcd, hD, hK⟩ := F.ex
  exact ⟨fun us ws => arrU 0 [] us ws 0 sh, ⟨fun s us ws _ h1 h2 => .of_eq (h dV kV doc pm an cdv ct us ws h1 h2), fun r1 r2 => arr_rel .nil r1 r2 0 sh hs⟩⟩
/-- .. that fill up -/
theorem kbD (F : FunD K x qual params body scope dvs kws f fd) (n o : Nat) (ks : List Str) (sh : List Src) (hd : dvs ≠ []) (hs : ShOk o dvs 0 sh)
    (h : ∀ (T : Addr) (kV doc pm : Value) (an : Option Addr) (cdv ct : Value) (us its ws : List Value), us.length = n → its.length = dvs.length → ws.length = ks.length →
      ∃ k, bindArgs (PySem.W.fnOf x qual params body scope (.ref T) kV doc pm an cdv ct) ⟨us, ks.zip ws⟩ = seqItems? (.ref T) >>= k ∧ k (some its.toArray) = pure (ps.zip (arrU o its us ws 0 sh))) :
    ∃ gU, KBn K fd ps n ks gU (arrV sh) := by
  obtain ⟨oc, od, dV, kV, doc, pm, an, cdv, ct, osl, rfl, lk, hcd, hD, hK⟩ := F.ex
  rcases hD with ⟨e, _⟩ | ⟨_, T, o', its, m, rfl, lT, oT, rT⟩
  · exact absurd e hd
  · refine ⟨fun us ws => arrU o its us ws 0 sh, ⟨fun s us ws X l1 l2 => ?_, fun r1 r2 => arr_rel rT r1 r2 0 sh hs⟩⟩
    obtain ⟨k, e1, e2⟩ := h T kV doc pm an cdv ct us its ws l1 rT.length.symm l2
    refine BindsTo.of_looks fun M => ?_
    rw [e1]
    exact looks_items X lT oT (.of_pure e2)
end
/-- a def of the program -/
structure Fnc (g : Glob) (base : Heap) (k : Nat) (x : Str) (ps : List Str) (φ : Phi) (f : Addr) (fd : FuncData) : Prop where
  mg : g.mg x = some (.ref f)
  kp : PySem.W.keepIn g.K (.ref f) = true
  ok : FnG g.P g.w g.K g.mg base (L2.CX g.P g.w) k f fd ps (spF g ps.length φ)
/-- a body's context -/
abbrev cxF (g : Glob) (base : Heap) (N : List Str) (qual : Str) (scope : Scope) (f : Addr) (cdv : Value) (A : Around) (outer : List PySem.Env) (s : Shared) (H : Hp) (E : XK) : Cx := cxOf (L2.CX g.P g.w) g.P g.w g.K g.mg base N qual scope f cdv A outer s H E
abbrev WE' (E : XK) : WX := fun cls d _ H => E cls d H
theorem takes_cxF {g : Glob} {base : Heap} {N : List Str} {qual : Str} {scope : Scope} {f : Addr} {cdv : Value} {A : Around} {outer : List PySem.Env} {s : Shared} {H : Hp} {E : XK} : Takes (cxF g base N qual scope f cdv A outer s H E) (WE' E) := takes_of rfl rfl rfl rfl
theorem owns_cxF {g : Glob} {base : Heap} {N : List Str} {qual : Str} {scope : Scope} {f : Addr} {cdv : Value} {A : Around} {outer : List PySem.Env} {s : Shared} {H : Hp} {E : XK} : PassesOwn (model (cxF g base N qual scope f cdv A outer s H E).prog (cxF g base N qual scope f cdv A outer s H E).w) (cxF g base N qual scope f cdv A outer s H E).A (cxF g base N qual scope f cdv A outer s H E).env (cxF g base N qual scope f cdv A outer s H E).xe := passes_of rfl
/-- what a body's proof gives -/
def BodyOk (g : Glob) (base : Heap) (k : Nat) (N : List Str) (qual : Str) (scope : Scope) (f : Addr) (body : List Stmt) (m : M Fl) : Prop :=
  ∀ (cdv : Value) (A : Around) (outer : List PySem.Env) (s : Shared) (H : Hp) (E : XK) (F : Ent), Room k (A.deeper (PyProof.Rows.envOfC qual scope s.heap.objs.size f cdv)) → A.guards = some [] → PSs (cxF g base N qual scope f cdv A outer s H E) body (rdS g F (WE' E) m)
/-- a def whose body reads so -/
theorem fn_ofG {C : CXT} {P : Program} {w : World} {K : PySem.W.Frag} {mg : Str → Option Value} {base : Heap} {k : Nat} {f : Addr} {x qual : Str} {params : Arguments} {body : List Stmt} {scope : Scope} {dvs : List V} {kws : List (Str × V)} {fd : FuncData} {N ps : List Str} {sp : Sp}
    (F : FunD K x qual params body scope dvs kws f fd) (S : FnScope N ps scope) (len : ∀ vs H Q E, sp vs H Q E → vs.length = ps.length)
    (hb : ∀ (cdv : Value) (A : Around) (outer : List PySem.Env) (s : Shared) (H : Hp) (vs : List V) (Q : VK) (E : XK), Room k (A.deeper (PyProof.Rows.envOfC qual scope s.heap.objs.size f cdv)) → A.guards = some [] → sp vs H Q E →
      ∃ t, PSs (cxOf C P w K mg base N qual scope f cdv A outer s H E) body t ∧ t { nx := fun _ H' => Q .non H', rt := Q } (L2.start N vs) H) : FnG P w K mg base C (k + 1) f fd ps sp := by
  obtain ⟨oc, od, dV, kV, doc, pm, an, cdv, ct, osl, rfl, lk, hcd, _, _⟩ := F.ex
  refine ⟨len, fun A outer s H ar us vs Q E hr hgd e0 hbd r hsp => ?_⟩
  have inK : K.In s.heap := PySem.W.Frag.In.keeps e0.mod.kin fun b o e => (e0.bs b o e).1
  have noLim := e0.mod.nolimit.keeps (fun b o e => (e0.bs b o e).1 : ∀ b o, base.get? b = some o → s.heap.get? b = some o)
  refine codeAny_call_function (Room.depth hr) (inK f _ lk) rfl S.co S.gen rfl (PySem.W.codeRec_of inK hcd) (hbd _ _ _ _ (wpAny_newFunctionEnv_cells S.kind ?_ ?_))
  · rintro ⟨n, v⟩ hy
    have hn := (List.of_mem_zip hy).1
    cases S.par n hn with
    | inl q => exact Or.inl q
    | inr q => exact Or.inr ⟨q, PySem.W.cellsFrom_some _ _ _ (Or.inl q)⟩
  · rintro env rfl s1 x
    refine ⟨noLim.keeps x.toInCall.keep, codeAny_func ?_⟩
    obtain ⟨t, ht, hq⟩ := hb cdv A outer s H vs Q E (Room.deeper hr _) hgd hsp
    have J0 := inv_start (CX := C) (P := P) (w := w) (E := E) (outer := outer) S hr.hd e0 (len _ _ _ _ hsp) r x
    refine wpAny_mono (ht.run [] s1 (L2.start N vs) H _ J0 hq) ?_ fun _ _ z => z
    intro fl s' hs
    cases fl with
    | ret u => obtain ⟨v, σ', H', J, rv, q⟩ := hs; exact ⟨v, H', J.os, J.bare, J.base, J.hok, rv, q⟩
    | next => obtain ⟨σ', H', J, q⟩ := hs; exact ⟨.non, H', J.os, J.bare, J.base, J.hok, rfl, q⟩
    | brk => exact (hs.choose_spec.choose_spec.2 : False).elim
    | cont => exact (hs.choose_spec.choose_spec.2 : False).elim
theorem fn_ok {g : Glob} {base : Heap} {k : Nat} {N ps : List Str} {x qual : Str} {params : Arguments} {body : List Stmt} {scope : Scope} {dvs : List V} {kws : List (Str × V)} {f : Addr} {fd : FuncData} {m : M Fl} (F : FunD g.K x qual params body scope dvs kws f fd) (S : FnScope N ps scope) (hm : g.mg x = some (.ref f))
    (b : BodyOk g base k N qual scope f body m) : Fnc g base (k + 1) x ps (runDef N.length m) f fd :=
  ⟨hm, F.kp, fn_ofG F S (fun vs H Q E h => h.1) fun cdv A outer s H vs Q E hr hgd h => by
    obtain ⟨Fe, q⟩ := run_start h
    exact ⟨_, b cdv A outer s H E Fe hr hgd, q⟩⟩

/-! ### in short -/
section
variable {g : Glob} {F : Ent} {W : WX} {X : Cx} {a b c e : Expr} {es : List Expr} {st : Stmt} {sts : List Stmt} {pos : Pos}
theorem wVar (i : Nat) {x : Str} (hN : X.N[i]? = some x := by rfl) (hv : Vis X.env.scope x := by first | exact Or.inl rfl | exact Or.inr (Or.inl rfl) | exact Or.inr (Or.inr rfl)) (hd : (x == ("__debug__" : Str)) = false := by decide) (hcd : (x == ("__classdict__" : Str)) = false := by decide) :
    PE X (.Name x pos) (rdZ g F W (mVar i)) := sVar (pe_var hN hv hd hcd)
theorem wPeek (i : Nat) {x : Str} (hN : X.N[i]? = some x := by rfl) (hv : Vis X.env.scope x := by first | exact Or.inl rfl | exact Or.inr (Or.inl rfl) | exact Or.inr (Or.inr rfl)) (hd : (x == ("__debug__" : Str)) = false := by decide) (hcd : (x == ("__classdict__" : Str)) = false := by decide) :
    PE X (.Name x pos) (rdO g F W (mPeek i)) := sPeek (pe_var hN hv hd hcd)
theorem wInt {i : Int} {j : Nat} : PE X (.Constant (.int i) j pos) (rdZ g F W (M.pure (.int i))) := sC pe_int fun _ _ => .int _
theorem wStr {x : Str} {j : Nat} : PE X (.Constant (.str x) j pos) (rdZ g F W (M.pure (.str x))) := sC pe_str fun _ _ => .str _
theorem wBl {x : Bool} {j : Nat} : PE X (.Constant (.bool x) j pos) (rdZ g F W (M.pure (.bl x))) := sC pe_bl fun _ _ => .bl _
theorem wNon {j : Nat} : PE X (.Constant .none j pos) (rdZ g F W (M.pure .non)) := sC pe_non fun _ _ => .non
theorem wGInt {x : Str} {i : Int} (h : ∃ t, X.mg x = some (.int i t)) (hg : Gl X x := by rfl) (hd : (x == ("__debug__" : Str)) = false := by decide) : PE X (.Name x pos) (rdZ g F W (M.pure (.int i))) := by
  obtain ⟨t, h⟩ := h
  exact sC (v := .int i) (pe_glob hg h ⟨t, rfl⟩ hd) fun _ _ => .int _
theorem wGStr {x : Str} {i : Str} (h : ∃ t, X.mg x = some (.str i t)) (hg : Gl X x := by rfl) (hd : (x == ("__debug__" : Str)) = false := by decide) : PE X (.Name x pos) (rdZ g F W (M.pure (.str i))) := by
  obtain ⟨t, h⟩ := h
  exact sC (v := .str i) (pe_glob hg h ⟨t, rfl⟩ hd) fun _ _ => .str _
theorem wBin {op : Operator} {f : F2} {ma mb : M D} (h : OpS g (binaryOp op) f) (ha : PE X a (rdO g F W ma)) (hb : PE X b (rdO g F W mb)) (hK : X.K = g.K := by rfl) (hu : X.A.units + 64 < cLine := by assumption) : PE X (.BinOp a op b pos) (rdE g F W (mOp2 (dr2 f) ma mb)) := sBin hK hu h ha hb
theorem wCmp {op : CmpOp} {f : F2} {ma mb : M D} (h : OpS g (compareOp op) f) (ha : PE X a (rdO g F W ma)) (hb : PE X b (rdO g F W mb)) (hm : behindInMarks op b = false := by exact nomark _) (hK : X.K = g.K := by rfl) (hu : X.A.units + 64 < cLine := by assumption) :
    PE X (.Compare a [op] [b] pos) (rdE g F W (mOp2 (dr2 f) ma mb)) := sCmp hK hu h ha hb hm
theorem wCmpT {op : CmpOp} {f : F2} {ma mb : M D} (h : OpS g (compareOp op) f) (ha : PE X a (rdO g F W ma)) (hb : PE X b (rdO g F W mb)) (hm : behindInMarks op b = false := by exact nomark _) (hK : X.K = g.K := by rfl) (hu : X.A.units + 64 < cLine := by assumption) :
    PT X (.Compare a [op] [b] pos) (rdT g F W (mBl (mOp2 (dr2 f) ma mb))) := sCmpT hK hu h ha hb hm
theorem wIn {ma mb : M D} (ha : PE X a (rdZ g F W ma)) (hb : PE X b (rdO g F W mb)) (hm : behindInMarks .In b = false := by with_unfolding_all rfl) (hK : X.K = g.K := by rfl) (hu : X.A.units + 64 < cLine := by assumption) :
    PE X (.Compare a [.In] [b] pos) (rdE g F W (mOp2 (drR (opIn false)) ma mb)) := sIn hK hu ha hb hm
theorem wInT {ma mb : M D} (ha : PE X a (rdZ g F W ma)) (hb : PE X b (rdO g F W mb)) (hm : behindInMarks .In b = false := by with_unfolding_all rfl) (hK : X.K = g.K := by rfl) (hu : X.A.units + 64 < cLine := by assumption) :
    PT X (.Compare a [.In] [b] pos) (rdT g F W (mBl (mOp2 (drR (opIn false)) ma mb))) := sInT hK hu ha hb hm
theorem wNin {ma mb : M D} (ha : PE X a (rdZ g F W ma)) (hb : PE X b (rdO g F W mb)) (hm : behindInMarks .NotIn b = false := by with_unfolding_all rfl) (hK : X.K = g.K := by rfl) (hu : X.A.units + 64 < cLine := by assumption) :
    PE X (.Compare a [.NotIn] [b] pos) (rdE g F W (mOp2 (drR (opIn true)) ma mb)) := sNin hK hu ha hb hm
theorem wNinT {ma mb : M D} (ha : PE X a (rdZ g F W ma)) (hb : PE X b (rdO g F W mb)) (hm : behindInMarks .NotIn b = false := by with_unfolding_all rfl) (hK : X.K = g.K := by rfl) (hu : X.A.units + 64 < cLine := by assumption) :
    PT X (.Compare a [.NotIn] [b] pos) (rdT g F W (mBl (mOp2 (drR (opIn true)) ma mb))) := sNinT hK hu ha hb hm
theorem wChain {op op' : CmpOp} {f f' : F2} {ma mb mc : M D} (h : OpS g (compareOp op) f) (h' : OpS g (compareOp op') f') (ha : PE X a (rdO g F W ma)) (hb : PE X b (rdO g F W mb)) (hc : PE X c (rdO g F W mc)) (hm : lastMarks [op, op'] [b, c] = false := by with_unfolding_all rfl) (hK : X.K = g.K := by rfl) (hu : X.A.units + 64 < cLine := by assumption) :
    PE X (.Compare a [op, op'] [b, c] pos) (rdE g F W (mChain (dr2 f) (dr2 f') ma mb mc)) := sChain hK hu h h' ha hb hc hm
theorem wChainT {op op' : CmpOp} {f f' : F2} {ma mb mc : M D} (h : OpS g (compareOp op) f) (h' : OpS g (compareOp op') f') (ha : PE X a (rdO g F W ma)) (hb : PE X b (rdO g F W mb)) (hc : PE X c (rdO g F W mc)) (hm : lastMarks [op, op'] [b, c] = false := by with_unfolding_all rfl) (hK : X.K = g.K := by rfl) (hu : X.A.units + 64 < cLine := by assumption) :
    PT X (.Compare a [op, op'] [b, c] pos) (rdT g F W (mBl (mChain (dr2 f) (dr2 f') ma mb mc))) := sChainT hK hu h h' ha hb hc hm
theorem wTrue {ma : M D} (ha : PE X a (rdO g F W ma)) (hp : plainT a = true := by rfl) (hK : X.K = g.K := by rfl) : PT X a (rdT g F W (mTr ma)) := sTrue hK ha hp
theorem wNotV {ma : M D} (ha : PE X a (rdO g F W ma)) (hK : X.K = g.K := by rfl) : PE X (.UnaryOp .Not a pos) (rdE g F W (mNotV ma)) := sNotV hK ha
theorem wAndV {rest : List Expr} {ma : M D} {mb : M (D × Bool)} (ha : PE X a (rdZ g F W ma)) (hb : PE X (.BoolOp .And (b :: rest) pos) (rdE g F W mb)) (hK : X.K = g.K := by rfl) : PE X (.BoolOp .And (a :: b :: rest) pos) (rdE g F W (mAndV ma mb)) := sAndV hK ha hb
theorem wOrV {rest : List Expr} {ma : M D} {mb : M (D × Bool)} (ha : PE X a (rdZ g F W ma)) (hb : PE X (.BoolOp .Or (b :: rest) pos) (rdE g F W mb)) (hK : X.K = g.K := by rfl) : PE X (.BoolOp .Or (a :: b :: rest) pos) (rdE g F W (mOrV ma mb)) := sOrV hK ha hb
theorem wOneV {op : BoolOp} {m : M (D × Bool)} (ha : PE X a (rdE g F W m)) : PE X (.BoolOp op [a] pos) (rdE g F W m) := pe_one ha
theorem wIdx {ma mb : M D} (ha : PE X a (rdO g F W ma)) (hb : PE X b (rdO g F W mb)) (h : ∀ l u s p, b ≠ .Slice l u s p := by intros; intro h; cases h) (hK : X.K = g.K := by rfl) : PE X (.Subscript a b pos) (rdE g F W (mOp2 (dr2 opIdx) ma mb)) := sIdx hK ha hb h
theorem wSlice {me : M D} {ml mh : M (Option Int)} {lo hi : Option Expr} {p2 : Pos} (he : PE X e (rdO g F W me)) (hl : PO X lo (rdP g F W ml)) (hh : PO X hi (rdP g F W mh)) (hK : X.K = g.K := by rfl) : PE X (.Subscript e (.Slice lo hi none p2) pos) (rdE g F W (mSlice me ml mh)) := sSlice hK he hl hh
theorem wACons {ma : M D} {mr : M (List D)} (h1 : PE X e (rdZ g F W ma)) (h2 : PA X es (rdA g F W mr)) (hs : ∀ x p, e ≠ .Starred x p := by intros; intro h; cases h) : PA X (e :: es) (rdA g F W (mCons ma mr)) := sACons h1 h2 hs
theorem wOCons {ma : M D} {mr : M (List D)} (h1 : PE X e (rdO g F W ma)) (h2 : PA X es (rdOs g F W mr)) (hs : ∀ x p, e ≠ .Starred x p := by intros; intro h; cases h) : PA X (e :: es) (rdOs g F W (mCons ma mr)) := sOCons h1 h2 hs
theorem wTup {n : Nat} {m : M (List D)} (h : PA X es (rdA g F W m)) (sh : Many n m) {x1} (hn : n ≤ 1000 := by decide) : PE X (.Tuple es x1 pos) (rdE g F W (mTup m)) := sTup h (sh.short hn)
theorem wLst {n : Nat} {m : M (List D)} (h : PA X es (rdA g F W m)) (sh : Many n m) (hn : n ≤ 1000 := by decide) : PE X (.List es pos) (rdE g F W (mLst m)) := sLst h (sh.short hn)
theorem wB {id : String} {f : OpFn} {x : Str} {p : Pos} {m : M (List D)} (h : CallS g (.builtin id) f) (hm : X.mg x = none) (ha : PA X (e :: es) (rdOs g F W m)) (hg : Gl X x := by rfl) (hv : bootBuiltins x = some (.builtin id) := by rfl) (hst : ∀ x p, e ≠ .Starred x p := by intros; intro h; cases h) (hn : x ≠ "__name__" := by decide) (hdb : (x == ("__debug__" : Str)) = false := by decide)
    (hpl : (backTo pos (starEach es X.env)).any (·.1) = false := by rfl) (hK : X.K = g.K := by rfl) (hu : X.A.units + 64 < cLine := by assumption) (hc : X.calm = true := by rfl) : PE X (.Call (.Name x p) (e :: es) [] pos) (rdE g F W (mOpN f m)) := sB hK hu hc h hg hm hv ha hst hn hdb hpl
theorem wTy {T : String} {f : OpFn} {x : Str} {p : Pos} {m : M (List D)} (h : CallS g (.type T) f) (hm : X.mg x = none) (ha : PA X (e :: es) (rdOs g F W m)) (hg : Gl X x := by rfl) (hv : bootBuiltins x = some (.type T) := by rfl) (hst : ∀ x p, e ≠ .Starred x p := by intros; intro h; cases h) (hn : x ≠ "__name__" := by decide) (hdb : (x == ("__debug__" : Str)) = false := by decide)
    (hpl : (backTo pos (starEach es X.env)).any (·.1) = false := by rfl) (hK : X.K = g.K := by rfl) (hu : X.A.units + 64 < cLine := by assumption) (hc : X.calm = true := by rfl) : PE X (.Call (.Name x p) (e :: es) [] pos) (rdE g F W (mOpN f m)) := sTy hK hu hc h hg hm hv ha hst hn hdb hpl
/-- a built-in type as a value -/
theorem wT (T : String) {x : Str} (hm : X.mg x = none) (hg : Gl X x := by rfl) (hv : bootBuiltins x = some (.type T) := by rfl) (hn : x ≠ "__name__" := by decide) (hd : (x == ("__debug__" : Str)) = false := by decide) : PE X (.Name x pos) (tC (.ty T)) := pe_bltn hg hm hv rfl hn hd
theorem wIsi (T : String) {p : Pos} {ma : M D} (hm : X.mg "isinstance" = none) (ha : PE X a (rdO g F W ma)) (hb : PE X b (tC (.ty T))) (hT : T ∈ tyNames := by decide) (hg : Gl X "isinstance" := by rfl) (hst : ∀ x p, a ≠ .Starred x p := by intros; intro h; cases h) (hst2 : ∀ x p, b ≠ .Starred x p := by intros; intro h; cases h) (hK : X.K = g.K := by rfl) :
    PE X (.Call (.Name "isinstance" p) [a, b] [] pos) (rdE g F W (mOp1 (fIsi (isiD [T])) ma)) :=
  sIsi (u := .type T) hK hg hm (isi_tys (cs := [T]) fun c hc => by rw [List.mem_singleton.mp hc]; exact hT) ha hst hst2 hb (.ty T)
theorem tys_paired : ∀ cs : List String, Paired ClsV (cs.map V.ty) (cs.map Value.type)
  | [] => .nil
  | c :: cs => .cons (.ty c) (tys_paired cs)
theorem wIsiT (Ts : List String) {p tpos : Pos} {k : Nat} {ma : M D} (hm : X.mg "isinstance" = none) (ha : PE X a (rdO g F W ma)) (hb : PA X es (fun _ H Q => Q (Ts.map V.ty) H)) (hT : ∀ T ∈ Ts, T ∈ tyNames := by decide) (hl : Ts.length ≤ 100 := by decide) (hg : Gl X "isinstance" := by rfl) (hst : ∀ x p, a ≠ .Starred x p := by intros; intro h; cases h) (hK : X.K = g.K := by rfl) :
    PE X (.Call (.Name "isinstance" p) [a, .Tuple es k tpos] [] pos) (rdE g F W (mOp1 (fIsi (isiD Ts)) ma)) :=
  sIsiT hK hg hm (isi_tys hT) ha hst hb (by rw [List.length_map]; exact hl) (tys_paired Ts)
theorem wAcCons {T : String} {Ts : List String} (h1 : PE X e (tC (.ty T))) (h2 : PA X es (fun _ H Q => Q (Ts.map V.ty) H)) (hs : ∀ x p, e ≠ .Starred x p := by intros; intro h; cases h) : PA X (e :: es) (fun _ H Q => Q ((T :: Ts).map V.ty) H) := ac_cons h1 h2 hs
/-! ### walks -/
theorem wISeq {tg : Expr} {m : M D} (he : PE X e (rdZ g F W m)) (hK : X.K = g.K := by rfl) : PI X tg e (rdI g F W (mItems m)) := sISeq hK he
theorem wRng1 {p : Pos} {tg : Expr} {m : M (List D)} (hm : X.mg "range" = none) (ha : PA X [a] (rdA g F W m)) (hg : Gl X "range" := by rfl) (hst : ∀ x p, a ≠ .Starred x p := by intros; intro h; cases h) : PI X tg (.Call (.Name "range" p) [a] [] pos) (rdI g F W (mRng1 m)) := sRng1 hg hm ha hst
theorem wRng2 {p : Pos} {tg : Expr} {m : M (List D)} (hm : X.mg "range" = none) (ha : PA X [a, b] (rdA g F W m)) (hg : Gl X "range" := by rfl) (hst : ∀ x p, a ≠ .Starred x p := by intros; intro h; cases h) (hst2 : ∀ x p, b ≠ .Starred x p := by intros; intro h; cases h) : PI X tg (.Call (.Name "range" p) [a, b] [] pos) (rdI g F W (mRng2 m)) := sRng2 hg hm ha hst hst2
theorem wEnum {elts : List Expr} {kk : Nat} {tpos : Pos} {p : Pos} {m : M (List D)} (hm : X.mg "enumerate" = none) (ha : PA X [a] (rdA g F W m)) (hg : Gl X "enumerate" := by rfl) (hst : ∀ x p, a ≠ .Starred x p := by intros; intro h; cases h) (hK : X.K = g.K := by rfl) :
    PI X (.Tuple elts kk tpos) (.Call (.Name "enumerate" p) [a] [] pos) (rdI g F W (mEnum m)) := sEnum hK hg hm ha hst
theorem wTgN {i : Nat} {x : Str} {vs : List Nat} (hN : X.N.Nodup) (hv : i ∈ vs := by decide) (hi : X.N[i]? = some x := by rfl) (hx : Loc X.env.scope x := by first | exact Or.inl rfl | exact Or.inr rfl) (hf : X.fn x = true ∨ X.env.scope.names.lookup x = some .local := by first | exact Or.inl rfl | exact Or.inr rfl) : PG X (.Name x pos) (rdG g F W vs (mTg (.name i))) := sTgN hv hN hi hx hf
theorem wTgsCons {tg : Tg} {ts : List Tg} {vs : List Nat} (h0 : PG X e (rdG g F W vs (mTg tg))) (h : PGs X es (rdGs g F W vs (mTgs ts))) (hs : ∀ x p, e ≠ .Starred x p := by intros; intro h; cases h) : PGs X (e :: es) (rdGs g F W vs (mTgs (tg :: ts))) := sTgsCons h0 hs h
theorem wTgT {k : Nat} {ts : List Tg} {vs : List Nat} (h : PGs X es (rdGs g F W vs (mTgs ts))) (hl : es.length = ts.length := by rfl) (hn : (assignEach es X.env).length = es.length := by rfl) (hst : (assignEach es X.env).findIdx? (·.1) = none := by rfl) (hK : X.K = g.K := by rfl) (hc : X.calm = true := by rfl) : PG X (.Tuple es k pos) (rdG g F W vs (mTg (.tup ts))) := sTgT hK hc h hl hn hst
theorem wFor {tge iter : Expr} {body : List Stmt} {mi : M (List D)} {tg : Tg} {mb : M Fl} (vs : List Nat) (hp : PassesOwn (model X.prog X.w) X.A X.env X.xe) (hi : PI X tge iter (rdI g F W mi)) (hg : ∀ F, PG X tge (rdG g F W vs (mTg tg))) (hb : ∀ F, PSs X body (rdS g F W mb))
    (hs : ∀ x, foldedSetIterable iter X.env x = pure x := by intro _; rfl) (hc : X.calm = true := by rfl) : PS X (.For tge iter body [] pos) (rdS g F W (mFor mi tg mb)) := sFor hp hc hi hg hb hs
theorem wSet {i : Nat} {x : Str} {p2 : Pos} {m : M (D × Bool)} (hN : X.N.Nodup) (he : PE X e (rdE g F W m)) (hi : X.N[i]? = some x := by rfl) (hx : Loc X.env.scope x := by first | exact Or.inl rfl | exact Or.inr rfl) (hf : X.fn x = true ∨ X.env.scope.names.lookup x = some .local := by first | exact Or.inl rfl | exact Or.inr rfl) (hn : noComp e = true := by rfl) :
    PS X (.Assign [.Name x p2] e pos) (rdS g F W (mSet i m)) := sSet hN hi hx hf he hn
theorem wExpr {m : M (D × Bool)} (he : PE X e (rdE g F W m)) (hn : noComp e = true := by rfl) : PS X (.Expr e pos) (rdS g F W (mDrop m)) := sExpr he hn
theorem wSetI {o i : Expr} {ip : Nat} {mi me : M D} {p2 : Pos} (ho : PE X o (tVar ip)) (hi : PE X i (rdO g F W mi)) (he : PE X e (rdZ g F W me)) (hs : swapsWithSole [.Subscript o i p2] e pos.line X.env = pure false := by rfl) (hw : swappedStores [.Subscript o i p2] e X.env = pure none := by rfl)
    (ha : ∀ v, assign (.Subscript o i p2) X.env v = (do
      let ov ← holding [v] (eval o X.env)
      let iv ← holding [v, ov] (eval i X.env)
      standAt p2
      holding [v, ov, iv] (setItem ov iv v)
      release [v, ov, iv] []) := by intro _; rfl) : PS X (.Assign [.Subscript o i p2] e pos) (rdS g F W (mSetI ip mi me)) := sSetI ho hi he hs hw ha
theorem wPot {o i : Expr} {ip jd : Nat} {mi me : M D} {p2 pd pt : Pos} {y : Str} {kt : Nat} (hN : X.N.Nodup) (ho : PE X o (tVar ip)) (hi : PE X i (rdO g F W mi)) (he : PE X e (rdZ g F W me)) (hy : X.N[jd]? = some y := by rfl) (hx : Loc X.env.scope y := by first | exact Or.inl rfl | exact Or.inr rfl) (hf : X.fn y = true ∨ X.env.scope.names.lookup y = some .local := by first | exact Or.inl rfl | exact Or.inr rfl)
    (hs : swapsWithSole [.Tuple [.Subscript o i p2, .Name y pd] kt pt] e pos.line X.env = pure false := by rfl) (hw : swappedStores [.Tuple [.Subscript o i p2, .Name y pd] kt pt] e X.env = pure none := by rfl)
    (ha : ∀ v, assign (.Subscript o i p2) X.env v = (do
      let ov ← holding [v] (eval o X.env)
      let iv ← holding [v, ov] (eval i X.env)
      standAt p2
      holding [v, ov, iv] (setItem ov iv v)
      release [v, ov, iv] []) := by intro _; rfl) (hK : X.K = g.K := by rfl) (hc : X.calm = true := by rfl) : PS X (.Assign [.Tuple [.Subscript o i p2, .Name y pd] kt pt] e pos) (rdS g F W (mPot ip jd mi me)) := sPot hK hc ho hi he hN hy hx hf hs hw ha
/-- a statement that is never reached -/
theorem wNever : PS X st (rdS g F W M.stuck) := PS.imp ps_never fun E σ H ⟨S, mu, env, cs, r, q⟩ => q.elim
/-- tuple targets -/
def mSetT (m : M D) (tg : Tg) : M Fl := m.bind fun d => (mTg tg d).bind fun _ => M.pure .nx
theorem wSetT {tge : Expr} {m : M D} {tg : Tg} (vs : List Nat) (hg : PG X tge (rdG g F W vs (mTg tg))) (he : PE X e (rdZ g F W m)) (hs : swapsWithSole [tge] e pos.line X.env = pure false := by rfl) (hw : swappedStores [tge] e X.env = pure none := by rfl) (h1 : (assignEach [tge] X.env).map (·.2) = [assign tge X.env] := by rfl) :
    PS X (.Assign [tge] e pos) (rdS g F W (mSetT m tg)) := PS.imp (ps_asg he hg hs hw h1) fun E σ H q => rdS.ex q fun d env1 cs1 v H1 S1 mu1 r1 t1 p1 => by
  rw [PoS.bind] at p1
  exact ⟨S1, mu1, env1, cs1, d, r1, t1, (Post.exF p1 fun k fs e c => mTg_noexc tg d env1 cs1 k fs e c).on fun _ e c k σ2 on2 r2 => k σ2 H1 S1 mu1 r2⟩
end
/-- a call of a def of the program -/
theorem wCall {g : Glob} {F : Ent} {W : WX} {X : Cx} {k n : Nat} {f : Addr} {fd : FuncData} {ps ks : List Str} {x : Str} {p pos : Pos} {e : Expr} {es : List Expr} {kws : List Keyword} {mp mk : M (List D)} {φ : Phi} {kk : Nat} (sh : List Src) {gU : List Value → List Value → List Value}
    (G : FnG X.prog X.w X.K X.mg X.base (L2.CX X.prog X.w) k f fd ps (spF g ps.length φ)) (hm : X.mg x = some (.ref f)) (hk : PySem.W.keepIn X.K (.ref f) = true) (hr : Room kk X.A) (hb : KBn X.K fd ps n ks gU (arrV sh)) (tk : Takes X W) (ha : PA X (e :: es) (rdA g F W mp)) (hkw : PK X kws (rdA g F W mk)) (hp : Many n mp) (hq : Many ks.length mk)
    (hd : DflOk g sh) (hle : k ≤ kk := by decide) (hgd : X.A.guards = some [] := by assumption) (hg : Gl X x := by rfl) (hsh : sh.length = ps.length := by rfl) (hall : (backToKw pos (keywordEach kws X.env)).all (·.1.isSome) = true := by rfl) (hks : (backToKw pos (keywordEach kws X.env)).filterMap (·.1) = ks := by rfl)
    (hdb : (x == ("__debug__" : Str)) = false := by decide) (hst : ∀ x p, e ≠ .Starred x p := by intros; intro h; cases h) (hpl : ((backTo pos (starEach (e :: es) X.env)).any (·.1) || (backToKw pos (keywordEach kws X.env)).any (·.1.isNone)) = false := by rfl) :
    PE X (.Call (.Name x p) (e :: es) kws pos) (rdN g F W (mCall φ sh mp mk)) := sCallN G (hr.mono hle) hgd tk hg hm hk hb hsh hd ha hkw hp hq hall hks hdb hst hpl
theorem wCall0 {g : Glob} {F : Ent} {W : WX} {X : Cx} {k : Nat} {f : Addr} {fd : FuncData} {ps ks : List Str} {x : Str} {p pos : Pos} {kws : List Keyword} {mk : M (List D)} {φ : Phi} {kk : Nat} (sh : List Src) {gU : List Value → List Value → List Value}
    (G : FnG X.prog X.w X.K X.mg X.base (L2.CX X.prog X.w) k f fd ps (spF g ps.length φ)) (hm : X.mg x = some (.ref f)) (hk : PySem.W.keepIn X.K (.ref f) = true) (hr : Room kk X.A) (hb : KBn X.K fd ps 0 ks gU (arrV sh)) (tk : Takes X W) (hkw : PK X kws (rdA g F W mk)) (hq : Many ks.length mk)
    (hd : DflOk g sh) (hle : k ≤ kk := by decide) (hgd : X.A.guards = some [] := by assumption) (hg : Gl X x := by rfl) (hsh : sh.length = ps.length := by rfl) (hall : (backToKw pos (keywordEach kws X.env)).all (·.1.isSome) = true := by rfl) (hks : (backToKw pos (keywordEach kws X.env)).filterMap (·.1) = ks := by rfl)
    (hdb : (x == ("__debug__" : Str)) = false := by decide) (hpl : ((backTo pos (starEach [] X.env)).any (·.1) || (backToKw pos (keywordEach kws X.env)).any (·.1.isNone)) = false := by rfl) :
    PE X (.Call (.Name x p) [] kws pos) (rdN g F W (mCall φ sh (M.pure []) mk)) := sCallN0 G (hr.mono hle) hgd tk hg hm hk hb hsh hd hkw hq hall hks hdb hpl
theorem dfl_nil {g : Glob} {sh : List Src} (h : (sh.all fun | .d _ _ => false | _ => true) = true) : DflOk g sh := fun v x m => by
  have := List.all_eq_true.mp h _ m
  cases this
theorem dfl_int {g : Glob} {sh : List Src} (h : (sh.all fun | .d (.int i) (.int j) => i == j | .d (.bl i) (.bl j) => i == j | .d .non .non => true | .d _ _ => false | _ => true) = true) : DflOk g sh := fun v x m S mu => by
  have := List.all_eq_true.mp h _ m
  cases v <;> cases x <;> first | (cases this; done) | skip
  · exact .non
  · rw [show _ = _ from eq_of_beq this]; exact .bl _
  · rw [show _ = _ from eq_of_beq this]; exact .int _
def mE (m : M D) : M (D × Bool) := m.bind fun d => M.pure (d, false)
def mNot (m : M Bool) : M Bool := m.bind fun b => M.pure (!b)
theorem wE {g : Glob} {F : Ent} {W : WX} {X : Cx} {e : Expr} {m : M D} (h : PE X e (rdZ g F W m)) : PE X e (rdE g F W (mE m)) := sE h
theorem wNotT {g : Glob} {F : Ent} {W : WX} {X : Cx} {a : Expr} {pos : Pos} {ma : M Bool} (ha : PT X a (rdT g F W ma)) : PT X (.UnaryOp .Not a pos) (rdT g F W (mNot ma)) := sNotT ha
end EL
namespace EL
open PySem PySem.Spec PyProof.Rows L2

/-! ### a law's end -/
theorem ints_rp {g : Glob} {S : Hp} {mu : List Addr} : ∀ l : List Int, RpL g S mu (l.map V.int) (l.map D.int)
  | [] => .nil
  | i :: l => .cons (.int i) (ints_rp l)
theorem sp_law {g : Glob} {φ : Phi} {H : Hp} {a : Addr} {ns : List Int} (h : ∃ c, φ [.lst (ns.map D.int)] [] = .ok (.bl true) false c) (hS : SqL g.K H a (ns.map V.int)) : spF g 1 φ [.ref a] H (fun v _ => v = .bl true) fun _ _ _ => False := by
  obtain ⟨c, e⟩ := h
  rcases hS with hS | hS
  · refine ⟨rfl, L2.upd (fun _ => none) a (.lst (ns.map V.int)), [], [], [.lst (ns.map D.int)], ⟨fun b u hb => ?_, rfl, List.nodup_nil, fun i b c h => by simp at h⟩, .cons (.lst (.inl upd_same) (ints_rp ns)) .nil, ?_⟩
    · by_cases hba : b = a
      · subst hba
        rw [upd_same] at hb
        cases hb
        exact hS
      · rw [upd_ne hba] at hb
        cases hb
    · unfold PoF
      rw [e]
      exact fun v H' S' mu' _ r => by cases r; rfl
  · refine ⟨rfl, fun _ => none, [], [], [.lst (ns.map D.int)], ⟨fun b u hb => (by cases hb), rfl, List.nodup_nil, fun i b c h => by simp at h⟩, .cons (.lst (.inr hS) (ints_rp ns)) .nil, ?_⟩
    unfold PoF
    rw [e]
    exact fun v H' S' mu' _ r => by cases r; rfl
/-- the law's call, from the promise of its def where nothing guards -/
theorem law_run {P : Program} {w : World} {K : PySem.W.Frag} {mg mb : Str → Option Value} {C : CXT} {k : Nat} {fa a : Addr} {fd : FuncData} {x : Str} {sp : Sp} {s : Shared} {vs : List Value} {ns : List Int}
    (KX : K.In s.heap) (nsM : s.heap.Ns mainGlobals mg) (nsB : s.heap.Ns builtinsNs mb) (boot : ∀ x : Str, x ≠ "__name__" → mb x = bootBuiltins x) (lim : s.heap.NoLimit) (hg : s.gens = #[])
    (ha : s.heap.get? a = some { cls := .type "list", data := .seq vs.toArray }) (hi : IntsAre vs ns) (hl : ns.length ≤ sizeLine) (hr : Room k callerA)
    (F : ∀ base : Heap, K.In base → base.Ns mainGlobals mg → FnG P w K mg base C k fa fd [x] sp) (hbd : ∀ (s : Shared) (u : Value), BindsTo s fd ⟨[u], []⟩ [(x, u)])
    (hsp : ∀ H : Hp, SqL K H a (ns.map V.int) → sp [.ref a] H (fun v _ => v = .bl true) fun _ _ _ => False) (hC : ∀ H e s', C [] H s (fun _ _ _ => False) e s' → False) :
    codeAny (model P w) callerA (.call (.ref fa) ⟨[.ref a], []⟩) (fun r s' => r = .ok (.ret (.bool true)) ∧ OldK s.heap s'.heap ∧ s'.os = s.os ∧ AllBare s'.gens) s := by
  have rv := vals_ints hi
  -- one road for both kinds of scripts: tracked is the script alone, or nothing
  suffices go : ∀ t : Bool, (t = true → K.lookup a = none) → (t = false → ∃ o, K.lookup a = some o) → codeAny (model P w) callerA (.call (.ref fa) ⟨[.ref a], []⟩) (fun r s' => r = .ok (.ret (.bool true)) ∧ OldK s.heap s'.heap ∧ s'.os = s.os ∧ AllBare s'.gens) s by
    cases hk : K.lookup a with
    | none => exact go true (fun _ => hk) fun z => nomatch z
    | some o => exact go false (fun z => nomatch z) fun _ => ⟨o, hk⟩
  intro t h1 h0
  obtain ⟨H, hH⟩ : ∃ H : Hp, H = fun b => if b = a ∧ t = true then some (.frz { cls := .type "list", data := .seq vs.toArray } (.lst (ns.map V.int))) else none := ⟨_, rfl⟩
  have at_ : ∀ b u, H b = some u → b = a ∧ t = true ∧ u = .frz { cls := .type "list", data := .seq vs.toArray } (.lst (ns.map V.int)) := fun b u e => by
    rw [hH] at e
    simp only [] at e
    by_cases hb : b = a ∧ t = true
    · rw [if_pos hb] at e
      exact ⟨hb.1, hb.2, (Option.some.inj e).symm⟩
    · rw [if_neg hb] at e; cases e
  have free : ∀ b o, s.heap.get? b = some o → (b = a → t = false ∨ (∀ its n, o.data ≠ .seq its n)) → H b = none := fun b o e h => by
    cases q : H b with
    | none => rfl
    | some u =>
      obtain ⟨e1, e2, _⟩ := at_ b u q
      subst e1
      rw [ha] at e
      cases e
      rcases h rfl with z | z
      · rw [e2] at z; cases z
      · exact (z _ _ rfl).elim
  have keepNs : ∀ {b : Addr} {m : Str → Option Value}, s.heap.Ns b m → (hidT s.heap H).Ns b m := fun {b m} h => by
    obtain ⟨o, es, ep, e, d, r⟩ := h
    exact ⟨o, es, ep, hidT_get e (free b o e fun _ => .inr fun its n z => by rw [d] at z; cases z), d, r⟩
  have inB : K.In (hidT s.heap H) := fun b o e => hidT_get (KX b o e) (free b _ (KX b o e) fun hb => .inl (by
    cases t with
    | false => rfl
    | true => rw [hb, h1 rfl] at e; cases e))
  have mod : Mod K mg (hidT s.heap H) := ⟨inB, keepNs nsM, ⟨mb, keepNs nsB, boot⟩, by
    obtain ⟨mc, l1, l2⟩ := lim
    exact ⟨mc, keepNs l1, l2⟩⟩
  have hok : HOk P w H s.heap := fun b u e => by
    obtain ⟨e1, _, e3⟩ := at_ b u e
    subst e1 e3
    exact ⟨ha, by rw [List.length_map]; exact hl, vs, _, rv, ha⟩
  have hS : SqL K H a (ns.map V.int) := by
    cases t with
    | true => exact .inl (.inr ⟨_, by rw [hH]; exact if_pos ⟨rfl, rfl⟩⟩)
    | false =>
      obtain ⟨o, ho⟩ := h0 rfl
      have e := KX a o ho
      rw [ha] at e
      cases e
      exact .inr ⟨_, vs.toArray, _, ho, rfl, rfl, rfl, by rw [List.size_toArray, hi.length]; exact hl, by simpa using rv⟩
  have env : Env0 P w K mg (hidT s.heap H) callerA [] s H := ⟨rfl, mod, fun b o e => of_hidT e, Nat.le_of_eq (hidT_size _ _), trivial, (fun b hb => nomatch (show b ∈ ([] : List Addr) from hb)), hok, .of_eq hg⟩
  refine codeAny_mono ((F _ inB (keepNs nsM)).run callerA [] s H ⟨[.ref a], []⟩ [.ref a] [.ref a] _ _ hr rfl env (hbd s (.ref a)) (.cons rfl .nil) (hsp H hS)) ?_
  intro r s' h
  rcases r with e | fl
  · exact (hC H e s' h).elim
  · cases fl <;> first | exact False.elim h | skip
    obtain ⟨v, H', os, bare, un, hok', rr, q⟩ := h
    have q : v = .bl true := q
    subst q
    cases (show _ = Value.bool true from rr)
    refine ⟨rfl, OldK.of_keep fun b o e => ?_, os, bare⟩
    cases q : H b with
    | none => exact un.keep b o e q (fun z => nomatch (show b ∈ ([] : List Addr) from z)) (by simp)
    | some u =>
      obtain ⟨_, _, e3⟩ := at_ b u q
      subst e3
      have z := hok' b _ (un.frzs b _ _ q)
      have z0 := hok b _ q
      have z1 : s.heap.get? b = some _ := z0.1
      have z2 : s'.heap.get? b = some _ := z.1
      rw [e] at z1
      cases z1
      exact z2
theorem walk_end {l : PySem.W.OpenLaw} {n k : Nat} {q : Program} {loose : List Str} {XP : (Str → Option Value) → Heap → Prop} {YP : World → Heap → Prop} {d : DefRec} {x : Str} {φ : Phi} (hn : l.most = some n) (hn2 : n ≤ sizeLine) (hdf : d.params.defaults = []) (hr : Room k callerA)
    (pure_law : ∀ ns : List Int, ns.length ≤ n → ∃ c, φ [.lst (ns.map D.int)] [] = .ok (.bl true) false c)
    (F : ∀ (w : World) (mg : Str → Option Value) (h : Heap), YP w h → h.Ns mainGlobals mg → ∃ (K : PySem.W.Frag) (f : Addr) (fd : FuncData) (ca : Nat → Addr), K.In h ∧ (∀ base : Heap, K.In base → base.Ns mainGlobals mg → Fnc ⟨l.prog, w, K, mg, ca⟩ base k d.name [x] φ f fd) ∧ ∀ (s : Shared) (v : Value), BindsTo s fd ⟨[v], []⟩ [(x, v)]) :
    PySem.W.WalkO q loose XP YP l.row.toRowW d [] (fun f vs => PySem.call f vs) := by
  refine Att.attach_call hn hdf ?_
  intro w s0 s1 mg mb fa o pm cd doc a vs ns G Y ho hd hcd hmg hobj hints hlen hg
  obtain ⟨K, f, fd, ca, KX, hF, hb⟩ := F w mg _ Y G.T.g
  have e : f = fa := by
    have h2 : some (Value.ref f) = some (Value.ref fa) := (hF _ KX G.T.g).mg.symm.trans hmg
    cases h2
    rfl
  subst e
  refine law_run (C := L2.CX l.prog w) (sp := spF ⟨l.prog, w, K, mg, ca⟩ 1 φ) KX G.T.g G.T.b G.T.builtins G.T.nolimit hg hobj hints (Nat.le_trans hlen hn2) hr ?_ hb ?_ ?_
  · exact fun base hK hG => (hF base hK hG).ok
  · exact fun H hS => sp_law (g := ⟨l.prog, w, K, mg, ca⟩) (pure_law ns hlen) hS
  · exact fun H e s' z => by
      obtain ⟨_, _, _, _, _, _, _, _, _, _, _, _, h⟩ := z
      exact h
end EL
namespace EL
open PySem PySem.Spec L2

/-! ### runs, step by step -/
section
variable {α β : Type} {e : Env} {c : Cells}
@[simp] theorem ap_pure {a : α} : M.pure a e c = .ok a e c := rfl
@[simp] theorem ap_stuck : (M.stuck : M α) e c = .stuck := rfl
@[simp] theorem ap_bind {m : M α} {f : α → M β} : M.bind m f e c = (match m e c with
  | .ok a e' c' => f a e' c'
  | .exc k fs e' c' => .exc k fs e' c'
  | .stuck => .stuck) := rfl
@[simp] theorem ap_opt_some {a : α} : M.opt (some a) e c = .ok a e c := rfl
@[simp] theorem ap_opt_none : (M.opt none : M α) e c = .stuck := rfl
@[simp] theorem ap_cs {f : Cells → Option α} : mCs f e c = M.opt (f c) e c := rfl
@[simp] theorem ap_ite {b : Prop} [Decidable b] {m m' : M α} : (if b then m else m') e c = if b then m e c else m' e c := by split <;> rfl
@[simp] theorem ap_Z {m : M (D × Bool)} : mZ m e c = M.bind m (fun r => M.pure r.1) e c := rfl
@[simp] theorem ap_E {m : M D} : mE m e c = M.bind m (fun d => M.pure (d, false)) e c := rfl
@[simp] theorem ap_var {i : Nat} : mVar i e c = (match e[i]? with
  | some (.fz d) => .ok d e c
  | some (.ow d) => .ok d (e.set i (.fz d)) c
  | _ => .stuck) := rfl
@[simp] theorem ap_peek {i : Nat} : mPeek i e c = (match e[i]? with
  | some (.fz d) => .ok d e c
  | some (.ow d) => .ok d e c
  | _ => .stuck) := rfl
@[simp] theorem ap_cons {ma : M D} {mr : M (List D)} : mCons ma mr e c = M.bind ma (fun d => mr.bind fun ds => M.pure (d :: ds)) e c := rfl
@[simp] theorem ap_tup {m : M (List D)} : mTup m e c = M.bind m (fun ds => M.pure (.tup ds, false)) e c := rfl
@[simp] theorem ap_lst {m : M (List D)} : mLst m e c = M.bind m (fun ds => M.pure (.lst ds, true)) e c := rfl
@[simp] theorem ap_op2 {f : OpF2} {ma mb : M D} : mOp2 f ma mb e c = M.bind ma (fun a => mb.bind fun b => mCs fun cs => f cs a b) e c := rfl
@[simp] theorem ap_op1 {f : OpF1} {ma : M D} : mOp1 f ma e c = M.bind ma (fun a => mCs fun cs => f cs a) e c := rfl
@[simp] theorem ap_opN {f : OpFn} {ma : M (List D)} : mOpN f ma e c = M.bind ma (fun a => mCs fun cs => f cs a) e c := rfl
@[simp] theorem ap_chain {f f' : OpF2} {ma mb mc : M D} : mChain f f' ma mb mc e c = M.bind ma (fun x => mb.bind fun y => (mCs fun cs => (f cs x y).bind blD).bind fun k =>
  if k then mc.bind fun z => mCs fun cs => f' cs y z else M.pure (.bl false, false)) e c := rfl
@[simp] theorem ap_tr {ma : M D} : mTr ma e c = M.bind ma (fun a => mCs fun cs => trC cs a) e c := rfl
@[simp] theorem ap_bl {ma : M (D × Bool)} : mBl ma e c = M.bind ma (fun a => M.opt (blD a)) e c := rfl
@[simp] theorem ap_not {ma : M Bool} : mNot ma e c = M.bind ma (fun b => M.pure (!b)) e c := rfl
@[simp] theorem ap_and {ma mb : M Bool} : mAnd ma mb e c = M.bind ma (fun b => if b then mb else M.pure false) e c := rfl
@[simp] theorem ap_or {ma mb : M Bool} : mOr ma mb e c = M.bind ma (fun b => if b then M.pure true else mb) e c := rfl
@[simp] theorem ap_notV {ma : M D} : mNotV ma e c = M.bind ma (fun a => mCs fun cs => (trC cs a).map fun k => (.bl (!k), false)) e c := rfl
@[simp] theorem ap_andV {ma : M D} {mb : M (D × Bool)} : mAndV ma mb e c = M.bind ma (fun a => (mCs fun cs => trC cs a).bind fun k => if k then mb else M.pure (a, false)) e c := rfl
@[simp] theorem ap_orV {ma : M D} {mb : M (D × Bool)} : mOrV ma mb e c = M.bind ma (fun a => (mCs fun cs => trC cs a).bind fun k => if k then M.pure (a, false) else mb) e c := rfl
@[simp] theorem ap_if {mt : M Bool} {ma mb : M α} : mIf mt ma mb e c = M.bind mt (fun b => if b then ma else mb) e c := rfl
@[simp] theorem ap_part {m : M D} : mPart m e c = M.bind m (fun d => M.opt (intD d)) e c := rfl
@[simp] theorem ap_slice {me : M D} {ml mh : M (Option Int)} : mSlice me ml mh e c = M.bind me (fun d => ml.bind fun lo => mh.bind fun hi => mCs fun cs => (dr cs d).bind fun x => slD x lo hi) e c := rfl
@[simp] theorem ap_items {m : M D} : mItems m e c = M.bind m (fun d => M.opt (itemsD d)) e c := rfl
@[simp] theorem ap_rng1 {m : M (List D)} : mRng1 m e c = M.bind m (fun ds => M.opt (rng1D ds)) e c := rfl
@[simp] theorem ap_rng2 {m : M (List D)} : mRng2 m e c = M.bind m (fun ds => M.opt (rng2D ds)) e c := rfl
@[simp] theorem ap_enum {m : M (List D)} : mEnum m e c = M.bind m (fun ds => M.opt (enD ds)) e c := rfl
@[simp] theorem ap_cell {m : M (D × Bool)} : mCell m e c = M.bind m (fun r env cs => if r.2 then .ok (.cell cs.length) env (cs ++ [r.1]) else .stuck) e c := rfl
@[simp] theorem ap_call {φ : Phi} {sh : List Src} {mp mk : M (List D)} : mCall φ sh mp mk e c = M.bind mp (fun ds => mk.bind fun es => mPhi φ (arrD sh ds es)) e c := rfl
@[simp] theorem ap_phi {φ : Phi} {ds : List D} : mPhi φ ds e c = (match φ ds c with
  | .ok d fr c => .ok (d, fr) e c
  | .exc k fs c => .exc k fs e c
  | .stuck => .stuck) := rfl
@[simp] theorem ap_seq {m m' : M Fl} : mSeq m m' e c = (match m e c with
  | .ok fl e' c' => (match fl with
    | .nx => m' e' c'
    | .bk => .ok .bk e' c'
    | .ct => .ok .ct e' c'
    | .rt d fr => .ok (.rt d fr) e' c')
  | .exc k fs e' c' => .exc k fs e' c'
  | .stuck => .stuck) := by
  unfold mSeq
  rw [ap_bind]
  cases m e c with
  | ok fl e' c' => cases fl <;> rfl
  | exc => rfl
  | stuck => rfl
@[simp] theorem ap_ret {m : M (D × Bool)} : mRet m e c = M.bind m (fun r => M.pure (.rt r.1 r.2)) e c := rfl
@[simp] theorem ap_drop {m : M (D × Bool)} : mDrop m e c = M.bind m (fun _ => M.pure .nx) e c := rfl
@[simp] theorem ap_put {i : Nat} {r : D × Bool} : mPut i r e c = if i < e.length then .ok () (e.set i (slotOf r)) c else .stuck := rfl
@[simp] theorem ap_set {i : Nat} {m : M (D × Bool)} : mSet i m e c = M.bind m (fun r => (mPut i r).bind fun _ => M.pure .nx) e c := rfl
@[simp] theorem ap_setT {m : M D} {tg : Tg} : mSetT m tg e c = M.bind m (fun d => (mTg tg d).bind fun _ => M.pure .nx) e c := rfl
@[simp] theorem ap_tgN {i : Nat} {d : D} : mTg (.name i) d e c = mPut i (d, false) e c := rfl
@[simp] theorem ap_tgT {ts : List Tg} {ds : List D} : mTg (.tup ts) (.tup ds) e c = mTgs ts ds e c := rfl
@[simp] theorem ap_tgsN : mTgs [] [] e c = .ok () e c := rfl
@[simp] theorem ap_tgsC {t : Tg} {ts : List Tg} {d : D} {ds : List D} : mTgs (t :: ts) (d :: ds) e c = M.bind (mTg t d) (fun _ => mTgs ts ds) e c := rfl
@[simp] theorem ap_comp {mi : M (List D)} {vs : List Nat} {tg : Tg} {mt : M Bool} {me : M D} : mComp mi vs tg mt me e c = M.bind mi (fun ds => (mBlk vs (compM (turnM vs tg mt me) ds)).bind fun xs => M.pure (.lst xs, true)) e c := rfl
@[simp] theorem ap_blk {vs : List Nat} {m : M α} : mBlk vs m e c = (match m (wipeE e vs) c with
  | .ok a e' c' => .ok a (restE e e' vs) c'
  | _ => .stuck) := rfl
@[simp] theorem ap_turn {vs : List Nat} {tg : Tg} {mt : M Bool} {me : M D} {d : D} : turnM vs tg mt me d e c = (match M.bind (mTg tg d) (fun _ => mt.bind fun b => if b then me.bind fun x => M.pure (some x) else M.pure none) e c with
  | .ok a e' c' => .ok a (wipeE e' vs) c'
  | _ => .stuck) := by
  unfold turnM mWipe
  cases M.bind (mTg tg d) (fun _ => mt.bind fun b => if b then me.bind fun x => M.pure (some x) else M.pure none) e c <;> rfl
@[simp] theorem ap_for {mi : M (List D)} {tg : Tg} {mb : M Fl} : mFor mi tg mb e c = M.bind mi (fun ds => forM (fun d => (mTg tg d).bind fun _ => mb) ds) e c := rfl
@[simp] theorem ap_mut {ip : Nat} {f : D → Option (α × D)} : mMut ip f e c = (match e[ip]? with
  | some (.ow d) => (match f d with
    | some (y, d') => .ok y (e.set ip (.ow d')) c
    | none => .stuck)
  | some (.fz (.cell n)) => (match c[n]? with
    | some d => (match f d with
      | some (y, d') => .ok y e (c.set n d')
      | none => .stuck)
    | none => .stuck)
  | _ => .stuck) := rfl
@[simp] theorem ap_setI {ip : Nat} {mi me : M D} : mSetI ip mi me e c = M.bind me (fun x => (mPeek ip).bind fun _ => mi.bind fun k => (mMut ip (setD k x)).bind fun _ => M.pure .nx) e c := rfl
def potK (ip jd : Nat) (mi : M D) (x : D) : M Fl := match x with
  | .tup [a, b] => (mPeek ip).bind fun _ => mi.bind fun k => (mMut ip (setD k a)).bind fun _ => (mPut jd (b, false)).bind fun _ => M.pure .nx
  | _ => M.stuck
@[simp] theorem ap_pot {ip jd : Nat} {mi me : M D} : mPot ip jd mi me e c = M.bind me (potK ip jd mi) e c := rfl
@[simp] theorem ap_potK {ip jd : Nat} {mi : M D} {a b : D} : potK ip jd mi (.tup [a, b]) e c = M.bind (mPeek ip) (fun _ => mi.bind fun k => (mMut ip (setD k a)).bind fun _ => (mPut jd (b, false)).bind fun _ => M.pure .nx) e c := rfl
end
section
variable {a b : D} {ds : List D}
@[simp] theorem ap_lt : opLt a b = cmpI (fun i j => decide (i < j)) strLt a b := rfl
@[simp] theorem ap_le : opLe a b = cmpI (fun i j => decide (i ≤ j)) (fun x y => !strLt y x) a b := rfl
@[simp] theorem ap_gt : opGt a b = cmpI (fun i j => decide (j < i)) (fun x y => strLt y x) a b := rfl
@[simp] theorem ap_ge : opGe a b = cmpI (fun i j => decide (j ≤ i)) (fun x y => !strLt x y) a b := rfl
@[simp] theorem ap_max : fMax ds = orN fMaxL fMax2 ds := rfl
@[simp] theorem ap_min : fMin ds = orN fMinL fMin2 ds := rfl
@[simp] theorem items_lst : itemsD (.lst ds) = some ds := rfl
@[simp] theorem items_tup : itemsD (.tup ds) = some ds := rfl
theorem items_str {x : Str} (h : x.length ≤ sizeLine) : itemsD (.str x) = some (signs x) := by
  show (if x.length ≤ sizeLine then some (signs x) else none) = _
  rw [if_pos h]
@[simp] theorem rng1_int {j : Int} : rng1D [.int j] = if decide (-1000000 ≤ j ∧ j ≤ 1000000) then some (rangeD 0 j.toNat) else none := rfl
@[simp] theorem rng2_int {i j : Int} : rng2D [.int i, .int j] = if decide (-1000000 ≤ i ∧ i ≤ 1000000 ∧ -1000000 ≤ j ∧ j ≤ 1000000) then some (rangeD i (j - i).toNat) else none := rfl
@[simp] theorem en_lst : enD [.lst ds] = if ds.length ≤ sizeLine then some (enumD 0 ds) else none := rfl
end
/-! ### comprehensions over known rows -/
theorem compM_if {α : Type} {turn : D → M (Option D)} {h k : α → D} {p : α → Bool} {env : Env} {cs : Cells} : ∀ (l : List α), (∀ x ∈ l, turn (h x) env cs = .ok (if p x then some (k x) else none) env cs) → compM turn (l.map h) env cs = .ok ((l.filter p).map k) env cs
  | [], _ => rfl
  | x :: l, ht => by
    have ih := compM_if (turn := turn) (h := h) (k := k) (p := p) (env := env) (cs := cs) l fun y hy => ht y (List.mem_cons_of_mem _ hy)
    have h1 := ht x List.mem_cons_self
    show M.bind (turn (h x)) (fun o => (compM turn (l.map h)).bind fun xs => M.pure (o.toList ++ xs)) env cs = _
    rw [ap_bind, h1]
    simp only [ap_bind, ih, ap_pure]
    cases hp : p x with
    | true => simp [hp]
    | false => simp [hp]
theorem compM_map {α : Type} {turn : D → M (Option D)} {h k : α → D} {env : Env} {cs : Cells} (l : List α) (ht : ∀ x ∈ l, turn (h x) env cs = .ok (some (k x)) env cs) : compM turn (l.map h) env cs = .ok (l.map k) env cs := by
  have := compM_if (turn := turn) (h := h) (k := k) (p := fun _ => true) (env := env) (cs := cs) l fun x hx => by rw [ht x hx]; rfl
  rw [this, List.filter_eq_self.mpr fun _ _ => rfl]
/-- over what changes: I holds of the cells, each item comes out as P says -/
theorem compM_inv {turn : D → M (Option D)} {env : Env} {I : Cells → Prop} {P : D → Prop} : ∀ (ds : List D) (cs : Cells), I cs → (∀ d ∈ ds, ∀ cs, I cs → ∃ x cs', turn d env cs = .ok (some x) env cs' ∧ P x ∧ I cs') → ∃ xs cs', compM turn ds env cs = .ok xs env cs' ∧ xs.length = ds.length ∧ (∀ x ∈ xs, P x) ∧ I cs'
  | [], cs, hi, _ => ⟨[], cs, rfl, rfl, (fun _ h => nomatch h), hi⟩
  | d :: ds, cs, hi, ht => by
    obtain ⟨x, cs1, h1, hP, h2⟩ := ht d List.mem_cons_self cs hi
    obtain ⟨xs, cs2, h3, h4, h5, h6⟩ := compM_inv ds cs1 h2 fun y hy => ht y (List.mem_cons_of_mem _ hy)
    refine ⟨x :: xs, cs2, ?_, by simp [h4], fun y hy => ?_, h6⟩
    · show M.bind (turn d) (fun o => (compM turn ds).bind fun xs => M.pure (o.toList ++ xs)) env cs = _
      simp [h1, h3]
    · rcases List.mem_cons.mp hy with rfl | hy
      · exact hP
      · exact h5 y hy
/-- all turns go on -/
theorem forM_nx {body : D → M Fl} {env : Env} {cs : Cells} : ∀ (ds : List D), (∀ d ∈ ds, body d env cs = .ok .nx env cs) → forM body ds env cs = .ok .nx env cs
  | [], _ => rfl
  | d :: ds, h => by
    have h1 := h d List.mem_cons_self
    have ih := forM_nx (body := body) (env := env) (cs := cs) ds fun y hy => h y (List.mem_cons_of_mem _ hy)
    show M.bind (body d) _ env cs = _
    rw [ap_bind, h1]
    exact ih
theorem intsD_map {α : Type} (f : α → Int) : ∀ l : List α, intsD (l.map fun x => .int (f x)) = some (l.map f)
  | [] => rfl
  | x :: l => by
    show (intsD (l.map fun x => .int (f x))).map (fun is => f x :: is) = _
    rw [intsD_map f l]
    rfl
theorem blsD_map {α : Type} (f : α → Bool) : ∀ l : List α, blsD (l.map fun x => .bl (f x)) = some (l.map f)
  | [] => rfl
  | x :: l => by
    show (blsD (l.map fun x => .bl (f x))).map (fun is => f x :: is) = _
    rw [blsD_map f l]
    rfl
theorem enumD_zip {α : Type} (h : α → D) : ∀ (l : List α) (n : Nat), enumD n (l.map h) = (l.zipIdx n).map fun q => .tup [.int q.2, h q.1]
  | [], _ => rfl
  | x :: l, n => by
    show D.tup [.int n, h x] :: enumD (n + 1) (l.map h) = _
    rw [enumD_zip h l (n + 1), List.zipIdx_cons, List.map_cons]
/-- all turns go on, what they change as I says -/
theorem forM_inv {body : D → M Fl} {I : Env → Cells → Prop} : ∀ (ds : List D) (env : Env) (cs : Cells), I env cs → (∀ d ∈ ds, ∀ env cs, I env cs → ∃ env' cs', body d env cs = .ok .nx env' cs' ∧ I env' cs') → ∃ env' cs', forM body ds env cs = .ok .nx env' cs' ∧ I env' cs'
  | [], env, cs, h, _ => ⟨env, cs, rfl, h⟩
  | d :: ds, env, cs, h, hb => by
    obtain ⟨e1, c1, h1, h2⟩ := hb d List.mem_cons_self env cs h
    obtain ⟨e2, c2, h3, h4⟩ := forM_inv ds e1 c1 h2 fun y hy => hb y (List.mem_cons_of_mem _ hy)
    refine ⟨e2, c2, ?_, h4⟩
    show M.bind (body d) _ env cs = _
    rw [ap_bind, h1]
    exact h3
/-- out of facts about the items -/
theorem list_of {α : Type} {h : α → D} {P : α → Prop} : ∀ {xs : List D}, (∀ x ∈ xs, ∃ p, x = h p ∧ P p) → ∃ l : List α, xs = l.map h ∧ l.length = xs.length ∧ ∀ p ∈ l, P p
  | [], _ => ⟨[], rfl, rfl, fun _ h => nomatch h⟩
  | x :: xs, hx => by
    obtain ⟨p, e, hp⟩ := hx x List.mem_cons_self
    obtain ⟨l, e2, hl, hP⟩ := list_of (xs := xs) fun y hy => hx y (List.mem_cons_of_mem _ hy)
    refine ⟨p :: l, by rw [e, e2]; rfl, by simp [hl], fun q hq => ?_⟩
    rcases List.mem_cons.mp hq with rfl | hq
    · exact hp
    · exact hP q hq
end EL
namespace EL
open PySem PySem.Spec PyProof.Rows L2

/-! ### repr -/
def kP : Key → PyData
  | .inl i => .int i
  | .inr x => .str x
mutual
def pD : D → Option PyData
  | .non => some .none
  | .bl b => some (.bool b)
  | .int i => some (.int i)
  | .str x => some (.str x)
  | .lst ds => (pDs ds).map .list
  | .tup ds => (pDs ds).map .tuple
  | .dct kvs => (pKs kvs).map .dict
  | .ins _ _ => none
  | .cell _ => none
def pDs : List D → Option (List PyData)
  | [] => some []
  | d :: ds => (pD d).bind fun x => (pDs ds).map fun xs => x :: xs
def pKs : List (Key × D) → Option (List (PyData × PyData))
  | [] => some []
  | (k, d) :: ds => (pD d).bind fun x => (pKs ds).map fun xs => (kP k, x) :: xs
end
/-- the written part holds the modules' dict -/
def SysIn (K : PySem.W.Frag) : Prop := ∃ o, K.lookup sysModules = some o ∧ o.cls = .type "dict"
section
variable {g : Glob} {X : Cx} {pins : List (Addr × Obj)} {σ : SS} {H S : Hp} {s : Shared} {mu : List Addr} {cs : Cells}
theorem not_sys (I : L2.Inv X pins σ H s) (hs : SysIn X.K) {a : Addr} {o : Obj} (h : s.heap.get? a = some o) (hc : o.cls ≠ .type "dict") : a ≠ sysModules := fun e => by
  obtain ⟨o', h1, h2⟩ := hs
  have := I.kIn _ _ h1
  rw [← e, h] at this
  cases this
  exact hc h2
theorem mem_app {as bs : List Addr} {a : Addr} (h1 : a ∉ as) (h2 : a ∉ bs) : a ∉ as ++ bs := fun h => (List.mem_append.mp h).elim h1 h2
theorem key_reads {h : Heap} {k : Key} {v : Value} (e : keyIs k v = true) : Reads h v (kP k) [] := by
  rcases keyIs_shape e with ⟨i, t, rfl, rfl⟩ | ⟨x, t, rfl, rfl⟩
  · exact .int i t
  · exact .str x t
mutual
theorem rp_reads (I : L2.Inv X pins σ H s) (hs : HS g H S mu cs) (hK : X.K = g.K) (hy : SysIn X.K) : ∀ (d : D) (v : V) (u : Value) (x : PyData), Rp g S mu v d → RelV v u → pD d = some x → ∃ as, Reads s.heap u x as ∧ sysModules ∉ as
  | .non, _, _, _, .non, r, e => by
    cases r
    simp only [pD] at e
    cases e
    exact ⟨_, .none, by simp⟩
  | .bl b, _, _, _, .bl _, r, e => by
    cases r
    simp only [pD] at e
    cases e
    exact ⟨_, .bool b, by simp⟩
  | .int i, _, _, _, .int _, r, e => by
    obtain ⟨t, rfl⟩ := r
    simp only [pD] at e
    cases e
    exact ⟨_, .int i t, by simp⟩
  | .str y, _, _, _, .str _, r, e => by
    obtain ⟨t, rfl⟩ := r
    simp only [pD] at e
    cases e
    exact ⟨_, .str y t, by simp⟩
  | .lst ds, _, _, _, .lst h1 h2, r, e => by
    cases r
    simp only [pD] at e
    cases e1 : pDs ds with
    | none => rw [e1] at e; cases e
    | some xs =>
      rw [e1] at e
      cases e
      have w : Vw g H S mu _ (.lst ds) := .inl (.lst h1 h2)
      obtain ⟨a, vs, ea, k1, k2⟩ := w.lst hs
      cases ea
      obtain ⟨its, rv, ⟨o, n, ho, hc, hd, ht⟩, _⟩ := I.list (hK.symm ▸ k1)
      obtain ⟨as, q1, q2⟩ := rpl_reads I hs hK hy ds vs its xs k2 rv e1
      refine ⟨_, .list ho hc ht (by simpa using q1), fun z => ?_⟩
      rcases List.mem_cons.mp z with z | z
      · exact not_sys I hy ho (by rw [hc]; exact fun z => absurd (Value.type.inj z) (by decide)) z.symm
      · exact q2 z
  | .tup ds, _, _, _, .tup h1 h2, r, e => by
    cases r
    simp only [pD] at e
    cases e1 : pDs ds with
    | none => rw [e1] at e; cases e
    | some xs =>
      rw [e1] at e
      cases e
      have w : Vw g H S mu _ (.tup ds) := .inl (.tup h1 h2)
      obtain ⟨a, vs, ea, k1, k2⟩ := w.tup hs
      cases ea
      obtain ⟨its, rv, ⟨o, ho, hc, n, hd⟩, _⟩ := I.tuple (hK.symm ▸ k1)
      obtain ⟨as, q1, q2⟩ := rpl_reads I hs hK hy ds vs its xs k2 rv e1
      exact ⟨_, .tuple ho hc hd (by simpa using q1), q2⟩
  | .dct ds, _, _, _, .dct h1 h2, r, e => by
    cases r
    simp only [pD] at e
    cases e1 : pKs ds with
    | none => rw [e1] at e; cases e
    | some xs =>
      rw [e1] at e
      cases e
      obtain ⟨hsy, vs, kv, o, es, ep, ho, hx, hd, _, hp, _⟩ : (_ == sysModules) = false ∧ ∃ vs, KV _ vs ∧ s.heap.DictOf (mixKind X.prog X.w) _ vs := by
        rcases hs.sub _ _ h1 with h | ⟨ob, h⟩
        · exact ⟨(I.hok _ _ h).2.1, (I.hok _ _ h).2.2⟩
        · obtain ⟨q1, q2, q3, vs, q4, q5⟩ := I.hok _ _ h
          exact ⟨q3, vs, q4, q5⟩
      obtain ⟨as, bs, q1, q2, q3, q4⟩ := rpk_reads I hs hK hy ds _ vs es.toList xs h2 kv hp e1
      refine ⟨_, .dict ho hx.1 hd q1 q2, fun z => ?_⟩
      rcases List.mem_cons.mp z with z | z
      · rw [← z] at hsy
        simp at hsy
      · exact (List.mem_append.mp z).elim q3 q4
  | .ins _ _, _, _, _, _, _, e => by simp [pD] at e
  | .cell _, _, _, _, _, _, e => by simp [pD] at e
theorem rpl_reads (I : L2.Inv X pins σ H s) (hs : HS g H S mu cs) (hK : X.K = g.K) (hy : SysIn X.K) : ∀ (ds : List D) (vs : List V) (us : List Value) (xs : List PyData), RpL g S mu vs ds → Vals vs us → pDs ds = some xs → ∃ as, ReadsAll s.heap us xs as ∧ sysModules ∉ as
  | [], _, _, _, .nil, r, e => by
    cases r
    simp only [pDs] at e
    cases e
    exact ⟨_, .nil, by simp⟩
  | d :: ds, _, _, _, .cons h1 h2, r, e => by
    cases r with
    | cons r1 r2 =>
      simp only [pDs] at e
      cases e1 : pD d with
      | none => rw [e1] at e; cases e
      | some x =>
        rw [e1] at e
        cases e2 : pDs ds with
        | none => simp [e2] at e
        | some xs =>
          have e : (pDs ds).map (fun xs => x :: xs) = some _ := e
          rw [e2] at e
          cases e
          obtain ⟨as, q1, q2⟩ := rp_reads I hs hK hy d _ _ x h1 r1 e1
          obtain ⟨bs, q3, q4⟩ := rpl_reads I hs hK hy ds _ _ xs h2 r2 e2
          exact ⟨_, .cons q1 q3, mem_app q2 q4⟩
theorem rpk_reads (I : L2.Inv X pins σ H s) (hs : HS g H S mu cs) (hK : X.K = g.K) (hy : SysIn X.K) : ∀ (ds : List (Key × D)) (ws : List (Key × V)) (us : List (Key × Value)) (es : List DictEntry) (xs : List (PyData × PyData)), RpK g S mu ws ds → KV ws us → Pairs (mixKind X.prog X.w) es us → pKs ds = some xs →
    ∃ as bs, ReadsAll s.heap (es.map (·.key)) (xs.map (·.1)) as ∧ ReadsAll s.heap (es.map (·.val)) (xs.map (·.2)) bs ∧ sysModules ∉ as ∧ sysModules ∉ bs
  | [], _, _, _, _, .nil, r, p, e => by
    cases r
    cases p
    simp only [pKs] at e
    cases e
    exact ⟨_, _, .nil, .nil, by simp, by simp⟩
  | (k, d) :: ds, _, _, _, _, .cons h1 h2, r, p, e => by
    cases r with
    | cons r1 r2 =>
      cases p with
      | cons p1 p2 p3 =>
        simp only [pKs] at e
        cases e1 : pD d with
        | none => rw [e1] at e; cases e
        | some x =>
          rw [e1] at e
          cases e2 : pKs ds with
          | none => simp [e2] at e
          | some xs =>
            have e : (pKs ds).map (fun xs => (kP k, x) :: xs) = some _ := e
            rw [e2] at e
            cases e
            obtain ⟨r3, r4⟩ := r1
            obtain ⟨as, q1, q2⟩ := rp_reads I hs hK hy d _ _ x h1 r4 e1
            obtain ⟨as2, bs2, q3, q4, q5, q6⟩ := rpk_reads I hs hK hy ds _ _ _ xs h2 r2 p3 e2
            refine ⟨_, _, .cons (key_reads (k := k) (by rw [show k = _ from r3]; exact p1)) q3, .cons ?_ q4, mem_app (by simp) q5, mem_app q2 q6⟩
            rw [← p2] at q1
            exact q1
end
end
/-- what repr tells -/
def reprD (d : D) : Option (D × Bool) := (pD d).bind fun x => if x.showable && decide (x.depth ≤ 40) && decide (x.shown.length ≤ sizeLine) then some (.str x.shown, false) else none
def mRepr (m : M D) : M (D × Bool) := mOp1 (fun cs d => (dr cs d).bind reprD) m
theorem vw_reads {g : Glob} {X : Cx} {pins : List (Addr × Obj)} {σ : SS} {H S : Hp} {s : Shared} {mu : List Addr} {cs : Cells} (I : L2.Inv X pins σ H s) (hs : HS g H S mu cs) (hK : X.K = g.K) (hy : SysIn X.K) {d : D} {v : V} {u : Value} {x : PyData} (w : Vw g H S mu v d) (r : RelV v u) (e : pD d = some x) : ∃ as, Reads s.heap u x as ∧ sysModules ∉ as := by
  rcases w with w | ⟨a, ea, w⟩
  · exact rp_reads I hs hK hy d v u x w r e
  · subst ea
    cases r
    cases d <;> first | exact w.elim | skip
    · obtain ⟨vs, h1, h2⟩ := w
      rename_i ds
      simp only [pD] at e
      cases e1 : pDs ds with
      | none => rw [e1] at e; cases e
      | some xs =>
        rw [e1] at e
        cases e
        obtain ⟨its, rv, ⟨o, n, ho, hc, hd, ht⟩, _⟩ := I.list (X := X) (.inl (.inl h1))
        obtain ⟨as, q1, q2⟩ := rpl_reads I hs hK hy ds vs its xs h2 rv e1
        refine ⟨_, .list ho hc ht (by simpa using q1), fun z => ?_⟩
        rcases List.mem_cons.mp z with z | z
        · exact not_sys I hy ho (by rw [hc]; exact fun z => absurd (Value.type.inj z) (by decide)) z.symm
        · exact q2 z
    · obtain ⟨vs, h1, h2⟩ := w
      rename_i ds
      simp only [pD] at e
      cases e1 : pKs ds with
      | none => rw [e1] at e; cases e
      | some xs =>
        rw [e1] at e
        cases e
        obtain ⟨_, hsy, ws, kv, o, es, ep, ho, hx, hd, _, hp, _⟩ := I.hok a _ h1
        obtain ⟨as, bs, q1, q2, q3, q4⟩ := rpk_reads I hs hK hy ds _ ws es.toList xs h2 kv hp e1
        refine ⟨_, .dict ho hx.1 hd q1 q2, fun z => ?_⟩
        rcases List.mem_cons.mp z with z | z
        · rw [← z] at hsy
          simp at hsy
        · exact (List.mem_append.mp z).elim q3 q4
    · simp [pD] at e
theorem call_reprG {g : Glob} {X : Cx} (hK : X.K = g.K) (hu : X.A.units + 64 < cLine) (hgd : X.A.guards = some []) (hy : SysIn X.K) {pins : List (Addr × Obj)} {σ : SS} {H S : Hp} {s : Shared} {mu : List Addr} {cs : Cells} (I : L2.Inv X pins σ H s) (hs : HS g H S mu cs) {d : D} {v : V} {u : Value} {y : D × Bool} {Q : VK} (w : Vw g H S mu v d) (r : RelV v u) (e : reprD d = some y)
    (q : ∀ x, y = (.str x, false) → Q (.str x) H) : wpAny (model X.prog X.w) X.A (call (.builtin "repr") [u]) (EP X pins σ Q) X.xe s := by
  unfold reprD at e
  cases e1 : pD d with
  | none => rw [e1] at e; cases e
  | some x =>
    rw [e1] at e
    have e : (if x.showable && decide (x.depth ≤ 40) && decide (x.shown.length ≤ sizeLine) then some (D.str x.shown, false) else none) = some y := e
    split at e
    · rename_i hc
      cases e
      simp only [Bool.and_eq_true, decide_eq_true_eq] at hc
      obtain ⟨⟨h1, h2⟩, h3⟩ := hc
      obtain ⟨as, rd, hn⟩ := vw_reads I hs hK hy w r e1
      have q := q x.shown rfl
      cases rd with
      | none => exact PySem.P.repr_of_none ⟨.str _, H, I.tok _, ⟨_, rfl⟩, q⟩
      | bool b => exact PySem.P.repr_of_bool ⟨.str _, H, I.tok _, ⟨_, rfl⟩, q⟩
      | int i t => exact PySem.P.repr_of_int (by simpa [PyData.showable] using h1) ⟨.str _, H, I.tok _, ⟨_, rfl⟩, q⟩
      | str z t =>
        simp only [PyData.shown] at q h3
        exact PySem.P.repr_of_str ⟨.str _, H, I.tok _, ⟨_, rfl⟩, q⟩ h3
      | list k1 k2 k3 k4 => exact repr_of_reads' (.list k1 k2 k3 k4) h1 (fun _ => hn) hgd (by omega) (fun _ _ e => e) (fun h' u tk hk => ⟨.str _, H, I.kept hk, ⟨_, rfl⟩, q⟩) h3
      | tuple k1 k2 k3 k4 => exact repr_of_reads' (.tuple k1 k2 k3 k4) h1 (fun _ => hn) hgd (by omega) (fun _ _ e => e) (fun h' u tk hk => ⟨.str _, H, I.kept hk, ⟨_, rfl⟩, q⟩) h3
      | dict k1 k2 k3 k4 k5 => exact repr_of_reads' (.dict k1 k2 k3 k4 k5) h1 (fun _ => hn) hgd (by omega) (fun _ _ e => e) (fun h' u tk hk => ⟨.str _, H, I.kept hk, ⟨_, rfl⟩, q⟩) h3
    · cases e
section
variable {g : Glob} {F : Ent} {W : WX} {X : Cx} {a : Expr} {pos : Pos}
def rRepr (g : Glob) : List V → Hp → VK → Prop := fun xs H Q => ∃ v S mu cs d y, xs = [v] ∧ HS g H S mu cs ∧ Vw g H S mu v d ∧ reprD d = some y ∧ ∀ x, y = (.str x, false) → Q (.str x) H
theorem cr_repr (hK : X.K = g.K) (hu : X.A.units + 64 < cLine) (hgd : X.A.guards = some []) (hy : SysIn X.K) : CallR X (.builtin "repr") (rRepr g) := by
  intro pins s σ H xs us Q I r h
  obtain ⟨v, S, mu, cs, d, y, rfl, hs, w, e, q⟩ := h
  cases r with
  | cons r rr =>
    cases rr
    exact call_reprG hK hu hgd hy I hs w r e q
theorem reprD_str {d : D} {y : D × Bool} (e : reprD d = some y) : ∃ x, y = (.str x, false) := by
  unfold reprD at e
  cases e1 : pD d with
  | none => rw [e1] at e; cases e
  | some x =>
    rw [e1] at e
    have e : (if x.showable && decide (x.depth ≤ 40) && decide (x.shown.length ≤ sizeLine) then some (D.str x.shown, false) else none) = some y := e
    split at e
    · cases e; exact ⟨_, rfl⟩
    · cases e
theorem wRepr {p : Pos} {ma : M D} (hy : SysIn X.K) (hm : X.mg "repr" = none) (ha : PE X a (rdO g F W ma)) (hg : Gl X "repr" := by rfl) (hst : ∀ x p, a ≠ .Starred x p := by intros; intro h; cases h) (hK : X.K = g.K := by rfl) (hu : X.A.units + 64 < cLine := by assumption) (hgd : X.A.guards = some [] := by assumption) :
    PE X (.Call (.Name "repr" p) [a] [] pos) (rdE g F W (mRepr ma)) :=
  PE.imp (pe_callB (cr_repr hK hu hgd hy) hg hm rfl (pa_cons ha pa_nil (starEach_cons hst)) (he := starEach_cons hst)) fun σ H Q q => rd_bind q fun d env1 cs1 v H1 S1 mu1 va r1 => by
    obtain ⟨y, e, k⟩ := r1.cs
    have e : (dr cs1 d).bind reprD = some y := e
    cases e1 : dr cs1 d with
    | none => rw [e1] at e; cases e
    | some d' =>
      rw [e1] at e
      refine ⟨v, S1, mu1, cs1, d', y, rfl, r1.1.hs, va.dr r1.1.hs e1, e, ?_⟩
      rintro x rfl
      exact k _ _ _ (.val (.str _))
end
end EL
namespace EL
open PySem PySem.Spec L2

section
variable {g : Glob} {F : Ent} {W : WX} {X : Cx} {a b c e o : Expr} {es : List Expr} {pos : Pos} {σ : SS} {H S : Hp} {mu : List Addr} {env : Env} {cs : Cells}
/-! ### a, b = x, y -/
def parK (i j : Nat) (ds : List D) : M Fl := match ds with
  | [a, b] => (mPut i (a, false)).bind fun _ => (mPut j (b, false)).bind fun _ => M.pure .nx
  | _ => M.stuck
def mPar (i j : Nat) (m : M (List D)) : M Fl := m.bind (parK i j)
theorem wPar {i j : Nat} {x y : Str} {m : M (List D)} {px py pt : Pos} {kt k2 pt2} (hN : X.N.Nodup) (ha : PA X [a, b] (rdA g F W m)) (hi : X.N[i]? = some x := by rfl) (hj : X.N[j]? = some y := by rfl) (hij : i ≠ j := by decide) (hx : X.env.scope.names.lookup x = some .local := by rfl) (hy : X.env.scope.names.lookup y = some .local := by rfl)
    (hw : swappedStores [.Tuple [.Name x px, .Name y py] kt pt] (.Tuple [a, b] k2 pt2) X.env = pure (some [x, y]) := by rfl) (hs : swapsWithSole [.Tuple [.Name x px, .Name y py] kt pt] (.Tuple [a, b] k2 pt2) pos.line X.env = pure false := by rfl) (hc : X.calm = true := by rfl) :
    PS X (.Assign [.Tuple [.Name x px, .Name y py] kt pt] (.Tuple [a, b] k2 pt2) pos) (rdS g F W (mPar i j m)) :=
  PS.imp (ps_par hc hN hi hj hij hx hy ha hw hs) fun E σ H q => rdS.ex q fun ds env1 cs1 vs H1 S1 mu1 r1 t p => by
    rcases ds with _ | ⟨d, _ | ⟨d', _ | ⟨d'', ds⟩⟩⟩ <;> first | exact p.elim | skip
    cases t with
    | cons t1 t2 =>
      cases t2 with
      | cons t2 t3 =>
        cases t3
        have p : PoS g F W E ((mPut i (d, false)).bind fun _ => (mPut j (d', false)).bind fun _ => M.pure .nx) env1 cs1 := p
        obtain ⟨h1, p⟩ := p.put
        obtain ⟨h2, p⟩ := p.put
        exact ⟨_, _, rfl, p _ H1 S1 mu1 ((r1.putZ h1 t1).putZ h2 t2)⟩

/-! ### ''.join(xs) -/
def strsD : List D → Option (List Str)
  | [] => some []
  | .str x :: ds => (strsD ds).map fun xs => x :: xs
  | _ => none
theorem RpL.strs : ∀ {vs : List V} {ds : List D} {is : List Str}, RpL g S mu vs ds → strsD ds = some is → vs = is.map V.str
  | _, [], _, .nil, e => by cases e; rfl
  | _, d :: ds, _, .cons h r, e => by
    cases d <;> first | (simp [strsD] at e; done) | skip
    unfold strsD at e
    cases e1 : strsD ds with
    | none => rw [e1] at e; cases e
    | some is =>
      rw [e1] at e
      cases e
      cases h
      rw [RpL.strs r e1, List.map_cons]
def seqD : D → Option (List D)
  | .lst ds => some ds
  | .tup ds => some ds
  | _ => none
@[simp] def opJoin : F2
  | .str a, d => (seqD d).bind fun ds => (strsD ds).bind fun ys => if (ys.map (·.length)).sum + ys.length * a.length ≤ 16777216 then some (.str (Txt.join a ys), false) else none
  | _, _ => none
theorem rp_str {v : V} {d : D} {x : Str} {cs : Cells} (hs : HS g H S mu cs) (h : Vo g H S mu v d) (e : dr cs d = some (.str x)) : v = .str x := (h.dr hs e).str
def mJoin (mo me : M D) : M (D × Bool) := mo.bind fun x => match x with
  | .str a => me.bind fun y => mCs fun cs => (dr cs y).bind fun y => opJoin (.str a) y
  | _ => M.stuck
def joinK (me : M D) (x : D) : M (D × Bool) := match x with
  | .str a => me.bind fun y => mCs fun cs => (dr cs y).bind fun y => opJoin (.str a) y
  | _ => M.stuck
theorem wJoin {mo me : M D} {apos : Pos} (ho : PE X o (rdZ g F W mo)) (he : PE X e (rdO g F W me)) (hst : ∀ x p, e ≠ .Starred x p := by intros; intro h; cases h) (hbase : attributeBase o "join" X.env (eval o X.env) = eval o X.env := by rfl) (hline : (apos.endLine == pos.line) = true := by rfl) (hK : X.K = g.K := by rfl) :
    PE X (.Call (.Attribute o "join" apos) [e] [] pos) (rdE g F W (mJoin mo me)) :=
  PE.imp (pe_join ho he (starEach_cons hst) hbase hline) fun σ H Q q => rd_bind q fun x env1 cs1 v H1 S1 mu1 va r1 => by
    cases x <;> first | exact r1.2.elim | skip
    rename_i a
    cases va
    refine ⟨⟨a, rfl⟩, (RA.bind r1 fun y env2 cs2 w H2 S2 mu2 gr vb r2 => ?_).rd⟩
    obtain ⟨z, ez, k⟩ := r2.cs
    cases e1 : dr cs2 y with
    | none => rw [e1] at ez; cases ez
    | some y' =>
      rw [e1] at ez
      have ez : (seqD y').bind (fun ds => (strsD ds).bind fun ys => if (ys.map (·.length)).sum + ys.length * a.length ≤ 16777216 then some (D.str (Txt.join a ys), false) else none) = some z := ez
      cases e2 : seqD y' with
      | none => rw [e2] at ez; cases ez
      | some ds =>
        rw [e2] at ez
        have ez : (strsD ds).bind (fun ys => if (ys.map (·.length)).sum + ys.length * a.length ≤ 16777216 then some (D.str (Txt.join a ys), false) else none) = some z := ez
        cases e3 : strsD ds with
        | none => rw [e3] at ez; cases ez
        | some ys =>
          rw [e3] at ez
          have ez : (if (ys.map (·.length)).sum + ys.length * a.length ≤ 16777216 then some (D.str (Txt.join a ys), false) else none) = some z := ez
          split at ez
          · rename_i hl
            cases ez
            have wv := vb.dr r2.1.hs e1
            cases y' <;> first | (cases e2; done) | skip
            · cases e2
              obtain ⟨p, xs, rfl, h1, h2⟩ := wv.lst r2.1.hs
              have hx := h2.strs e3
              subst hx
              exact ⟨a, p, ys, rfl, rfl, .inl (hK.symm ▸ h1), hl, k _ _ _ (.val (.str _))⟩
            · cases e2
              obtain ⟨p, xs, rfl, h1, h2⟩ := wv.tup r2.1.hs
              have hx := h2.strs e3
              subst hx
              exact ⟨a, p, ys, rfl, rfl, .inr (hK.symm ▸ h1), hl, k _ _ _ (.val (.str _))⟩
          · cases ez

/-! ### dict displays -/
def putD (kvs : List (Key × D)) (k : Key) (v : D) : List (Key × D) :=
  if (kvs.any fun kv => decide (kv.1 = k)) = true then kvs.map (fun kv => if kv.1 = k then (kv.1, v) else kv) else kvs ++ [(k, v)]
def mergeD (kvs more : List (Key × D)) : List (Key × D) := more.foldl (fun acc kv => putD acc kv.1 kv.2) kvs
theorem RpK.append : ∀ {vs ds ws es}, RpK g S mu vs ds → RpK g S mu ws es → RpK g S mu (vs ++ ws) (ds ++ es)
  | _, _, _, _, .nil, s => s
  | _, _, _, _, .cons h r, s => .cons h (RpK.append r s)
theorem RpK.any {k : Key} : ∀ {vs ds}, RpK g S mu vs ds → (vs.any fun kv => decide (kv.1 = k)) = (ds.any fun kv => decide (kv.1 = k))
  | _, _, .nil => rfl
  | _, _, .cons h r => by
    rw [List.any_cons, List.any_cons, RpK.any r]
theorem RpK.repl {k : Key} {v : V} {d : D} (h : Rp g S mu v d) : ∀ {vs ds}, RpK g S mu vs ds → RpK g S mu (vs.map fun kv => if kv.1 = k then (kv.1, v) else kv) (ds.map fun kv => if kv.1 = k then (kv.1, d) else kv)
  | _, _, .nil => .nil
  | _, _, .cons (k := k') q r => by
    rw [List.map_cons, List.map_cons]
    by_cases hk : k' = k
    · simp only [hk, if_pos]
      exact .cons h (RpK.repl h r)
    · simp only [hk, if_false]
      exact .cons q (RpK.repl h r)
theorem RpK.put {k : Key} {v : V} {d : D} {vs ds} (r : RpK g S mu vs ds) (h : Rp g S mu v d) : RpK g S mu (putK vs k v) (putD ds k d) := by
  unfold putK putD
  rw [r.any]
  split
  · exact RpK.repl h r
  · exact r.append (.cons h .nil)
theorem RpK.merge : ∀ {ws es vs ds}, RpK g S mu ws es → RpK g S mu vs ds → RpK g S mu (mergeK vs ws) (mergeD ds es)
  | _, _, _, _, .nil, r => r
  | _, _, _, _, .cons (k := k) h t, r => by
    have q := RpK.merge t (r.put (k := k) h)
    exact q
def keyD : D → Option Key
  | .int i => some (.inl i)
  | .str x => some (.inr x)
  | _ => none
theorem keyD_v {v : V} {d : D} {k : Key} (h : Rp g S mu v d) (e : keyD d = some k) : v = kV k := by
  cases d <;> first | (cases e; done) | skip
  · cases e; cases h; rfl
  · cases e; cases h; rfl
def mPairs : List (M D × M D) → M (List (Key × D))
  | [] => M.pure []
  | (mk, mv) :: r => mk.bind fun x => mv.bind fun y => (M.opt (keyD x)).bind fun k => (mPairs r).bind fun ps => M.pure ((k, y) :: ps)
def mDict (mps : List (M D × M D)) : M (D × Bool) := (mPairs mps).bind fun kvs => M.pure (.dct (mergeD [] kvs), true)
abbrev rdX (g : Glob) (W : WX) (m : M D) : TE := fun σ H Q => ∃ F, rdZ g F W m σ H Q
theorem pairs_rd : ∀ (mps : List (M D × M D)) {F : Ent} {H S : Hp} {mu : List Addr} {env : Env} {cs : Cells} {Q : List (V × V) → Hp → Prop}, Rel g F σ H S mu env cs →
    Post (mPairs mps env cs) (fun kvs env' cs' => ∀ vs H' S' mu', Gr H S mu H' S' mu' → Rel g F σ H' S' mu' env' cs' → RpK g S' mu' vs kvs → Q (vs.map fun kv => (kV kv.1, kv.2)) H') (ExW g F W σ) → tPairs (mps.map fun p => (rdX g W p.1, rdX g W p.2)) σ H Q
  | [], F, H, S, mu, env, cs, Q, r, p => p [] H S mu .refl r .nil
  | (mk, mv) :: mps, F, H, S, mu, env, cs, Q, r, p => by
    have p : Post ((mk.bind fun x => mv.bind fun y => (M.opt (keyD x)).bind fun k => (mPairs mps).bind fun ps => M.pure ((k, y) :: ps)) env cs) _ _ := p
    rw [Post.bind] at p
    refine ⟨F, S, mu, env, cs, r, p.on fun x env1 cs1 p1 v H1 S1 mu1 gr1 r1 t1 => ?_⟩
    rw [Post.bind] at p1
    refine ⟨F, S1, mu1, env1, cs1, r1, p1.on fun y env2 cs2 p2 w H2 S2 mu2 gr2 r2 t2 => ?_⟩
    rw [Post.bind] at p2
    cases ek : keyD x with
    | none => rw [ek] at p2; exact p2.elim
    | some k =>
      rw [ek] at p2
      have p2 : Post ((mPairs mps).bind (fun ps => M.pure ((k, y) :: ps)) env2 cs2) _ _ := p2
      rw [Post.bind] at p2
      have ev := keyD_v t1 ek
      subst ev
      refine pairs_rd mps r2 (p2.on fun ps env3 cs3 p3 vs H3 S3 mu3 gr3 r3 t3 => ?_)
      exact p3 ((k, w) :: vs) H3 S3 mu3 ((gr1.trans gr2).trans gr3) r3 (.cons (t2.mono gr3.mo) t3)
theorem mPairs_len : ∀ (mps : List (M D × M D)) {env : Env} {cs : Cells} {kvs env' cs'}, mPairs mps env cs = .ok kvs env' cs' → kvs.length = mps.length
  | [], _, _, _, _, _, e => by cases e; rfl
  | (mk, mv) :: mps, env, cs, kvs, env', cs', e => by
    unfold mPairs M.bind at e
    cases e1 : mk env cs with
    | stuck => rw [e1] at e; cases e
    | exc => rw [e1] at e; cases e
    | ok x e2 c2 =>
      rw [e1] at e
      simp only [] at e
      cases e3 : mv e2 c2 with
      | stuck => rw [e3] at e; cases e
      | exc => rw [e3] at e; cases e
      | ok y e4 c4 =>
        rw [e3] at e
        cases ek : keyD x with
        | none => simp only [ek] at e; cases e
        | some k =>
          simp only [ek] at e
          cases e5 : mPairs mps e4 c4 with
          | stuck => simp only [M.opt, e5] at e; cases e
          | exc => simp only [M.opt, e5] at e; cases e
          | ok ps e6 c6 =>
            simp only [M.opt, e5] at e
            cases e
            rw [List.length_cons, List.length_cons, mPairs_len mps e5]
inductive PPd (g : Glob) (W : WX) (X : Cx) : List (Option Expr) → List Expr → List (M D × M D) → Prop
  | nil : PPd g W X [] [] []
  | cons {k v : Expr} {ks : List (Option Expr)} {vs : List Expr} {mk mv : M D} {r : List (M D × M D)} (hk : ∀ F, PE X k (rdZ g F W mk)) (hv : ∀ F, PE X v (rdZ g F W mv)) : PPd g W X ks vs r → PPd g W X (some k :: ks) (v :: vs) ((mk, mv) :: r)
theorem PPd.pps : ∀ {keys : List (Option Expr)} {vals : List Expr} {mps : List (M D × M D)}, PPd g W X keys vals mps → PPs X pos keys vals (mps.map fun p => (rdX g W p.1, rdX g W p.2))
  | _, _, _, .nil => pps_nil
  | _, _, _, .cons hk hv r => pps_cons ⟨fun pins s σ H Q I ⟨F, q⟩ => (hk F).run pins s σ H Q I q⟩ ⟨fun pins s σ H Q I ⟨F, q⟩ => (hv F).run pins s σ H Q I q⟩ r.pps
theorem PPd.len : ∀ {keys : List (Option Expr)} {vals : List Expr} {mps : List (M D × M D)}, PPd g W X keys vals mps → keys.length = mps.length
  | _, _, _, .nil => rfl
  | _, _, _, .cons hk hv r => by rw [List.length_cons, List.length_cons, r.len]
theorem wDict0 : PE X (.Dict [] [] pos) (rdE g F W (mDict [])) := PE.imp pe_dnewK fun σ H Q ⟨S, mu, env, cs, ra⟩ p hp => by
  have ra : RA g F W (TRes g F) (M.opt (some (D.dct [], true))) σ H S mu env cs Q := ra
  obtain ⟨y, e, k⟩ := ra.op
  cases e
  exact k _ _ _ (OpRes.new ra.1.hs hp ⟨[], upd_same, .nil⟩)
theorem wDict {keys : List (Option Expr)} {vals : List Expr} {mps : List (M D × M D)} (h : PPd g W X keys vals mps) (hall : keys.all (·.isSome) = true := by rfl) (hl : keys.length = vals.length := by rfl) (h0 : keys ≠ [] := by intro h; cases h) (h15 : keys.length ≤ 15 := by decide) : PE X (.Dict keys vals pos) (rdE g F W (mDict mps)) :=
  PE.imp (pe_disp h.pps hall hl h0 h15) fun σ H Q ⟨S, mu, env, cs, r, q⟩ p hp => by
    unfold mDict at q
    rw [Post.bind] at q
    have hS := r.hs.sNone hp
    have u : Up H S (L2.upd H p (.dK [])) S := Up.new hp hS
    have r0 : Rel g (F.res p) σ (L2.upd H p (.dK [])) S mu env cs := Rel.res (u.rel r) hS (r.hs.notMu hp) (r.fi.fresh r.hs hp) ⟨_, upd_same⟩ fun i d e1 e2 => by
      obtain ⟨a, k1, _, _, _, k6⟩ := r.ow i d e1
      rw [e2] at k1
      cases k1
      obtain ⟨o, ho⟩ := k6.has
      rw [ho] at hp; cases hp
    have hlen : ∀ kvs env' cs', mPairs mps env cs = .ok kvs env' cs' → kvs.length ≤ 15 := fun kvs env' cs' e => by
      rw [mPairs_len mps e, ← h.len]; exact h15
    refine pairs_rd mps r0 ?_
    cases em : mPairs mps env cs with
    | stuck => rw [em] at q; exact q
    | exc k fs e' c' =>
      rw [em] at q
      exact fun dx H' S' mu' r' x => q dx H' S' mu' r'.unres x
    | ok kvs env' cs' =>
      rw [em] at q
      intro vs H' S' mu' gr r' t
      obtain ⟨h1, h2, h3, h4⟩ := r'.fi.r p List.mem_cons_self
      have hH : H' p = some (.dK []) := gr.h p _ upd_same (r.hs.notMu hp)
      have hvl : vs.length ≤ 15 := by rw [t.length]; exact hlen _ _ _ em
      refine ⟨hH, vs, rfl, hvl, ?_⟩
      have r2 : Rel g (F.res p) σ (L2.upd H' p (.dK (mergeK [] vs))) S' mu' env' cs' := r'.upd List.mem_cons_self fun ob u e => by rw [hH] at e; cases e
      refine q _ _ S' mu' ?_ r2.unres ⟨p, rfl, h1, h2, ⟨h3, fun z => ?_⟩, ⟨_, upd_same, RpK.merge t .nil⟩, fun i d' e1 e2 => ?_⟩
      · exact (u.gr.trans gr).upd hp
      · obtain ⟨_, _, _, o, ho⟩ := r.fi.r p z
        rw [ho] at hp; cases hp
      · obtain ⟨a, k1, k2, k3, ⟨k4, k5⟩, k6⟩ := r'.ow i d' e1
        rw [e2] at k1
        cases k1
        exact k5 List.mem_cons_self
end
end EL
namespace EL
open PySem PySem.Spec L2

/-! ### the head's facts, the modules' dict among them -/
def sysB (K : PySem.W.Frag) : Bool := match K.lookup sysModules with
  | some o => decide (o.cls = .type "dict")
  | none => false
theorem sysB_ok {K : PySem.W.Frag} (h : sysB K = true) : SysIn K := by
  unfold sysB at h
  cases e : K.lookup sysModules with
  | none => rw [e] at h; cases h
  | some o =>
    rw [e] at h
    exact ⟨o, e, of_decide_eq_true h⟩
def obsS (fa : List He.Fa) (fn : List He.DefD) (K : PySem.W.Frag) : He.AlD := ((He.obsD fa fn K).1 && sysB K, (He.obsD fa fn K).2)
def obsSG (n : Nat) (fa : List He.Fa) (fn : List He.DefD) (h : Addr → Option Obj) : He.AlD := obsS fa fn (He.frG h (sysModules :: He.asD h n))
theorem obsS_says {fa : List He.Fa} {fn : List He.DefD} {K : PySem.W.Frag} (e : obsS fa fn K = He.valD fn) : He.SaysD fa fn K ∧ SysIn K := by
  unfold obsS at e
  have e1 : ((He.obsD fa fn K).1 && sysB K) = true := by
    have h := congrArg (fun z : He.AlD => z.1) e
    exact h
  have e2 : (He.obsD fa fn K).2 = (He.valD fn).2 := by
    have h := congrArg (fun z : He.AlD => z.2) e
    exact h
  obtain ⟨h1, h2⟩ := Bool.and_eq_true_iff.mp e1
  exact ⟨Prod.ext h1 e2, sysB_ok h2⟩
def hookS (n : Nat) (fa : List He.Fa) (fn : List He.DefD) : PySem.W.Hook where
  α := He.AlD
  obs := fun s => obsSG n fa fn s.heap.get?
  val := fun _ => He.valD fn
  says := fun _ h => ∃ K : PySem.W.Frag, K.In h ∧ He.SaysD fa fn K ∧ SysIn K
  of := fun _ _ e => ⟨_, He.frG_in, obsS_says e⟩
  keeps := fun _ _ _ ⟨K, hK, c⟩ k => ⟨K, PySem.W.Frag.In.keeps hK k, c⟩
theorem obsSG_eq {n : Nat} {fa : List He.Fa} {fn : List He.DefD} {h : Addr → Option Obj} {s : Shared} (e : ∀ a, h a = s.heap.get? a) : obsSG n fa fn h = (hookS n fa fn).obs s := by
  have e : h = s.heap.get? := funext e
  rw [e]
  rfl
end EL
namespace K10
open PySem PySem.Spec L2 EL
def nn__law_draw : List Str := [(Str.ofString "_law_pot_here"), (Str.ofString "_law_size"), (Str.ofString "_law_digit")]
def m__law_draw : M Fl := (mSeq (mIf (mBl (mOp2 (dr2 opGt) (mZ (mOp2 (dr2 opIdx) (mPeek 0) (M.pure (.int 0)))) (M.pure (.int 0)))) (mSeq (mPot 0 2 (M.pure (.int 0)) (mZ (mOpN (drN fDivmod) (mCons (mZ (mOp2 (dr2 opIdx) (mPeek 0) (M.pure (.int 0)))) (mCons (mPeek 1) (M.pure []))))))
    (mSeq (mRet (mE (mVar 2)))
    (M.pure .nx))) (M.pure .nx))
    (mSeq (mSetI 0 (M.pure (.int 1)) (mZ (mOp2 (dr2 opMod) (mZ (mOpN (drN fInt) (mCons (mZ (mOp2 (dr2 opAdd) (mZ (mOp2 (dr2 opMul) (mZ (mOp2 (dr2 opIdx) (mPeek 0) (M.pure (.int 1)))) (M.pure (.int 48271)))) (M.pure (.int 12253)))) (M.pure [])))) (M.pure (.int 2147483587)))))
    (mSeq (mRet (mOp2 (dr2 opMod) (mZ (mOpN (drN fInt) (mCons (mZ (mOp2 (dr2 opFdiv) (mZ (mOp2 (dr2 opMod) (mZ (mOpN (drN fInt) (mCons (mZ (mOp2 (dr2 opMul) (mZ (mOp2 (dr2 opIdx) (mPeek 0) (M.pure (.int 1)))) (mZ (mOp2 (dr2 opIdx) (mPeek 0) (M.pure (.int 1)))))) (M.pure [])))) (M.pure (.int 2147483549)))) (M.pure (.int 23)))) (M.pure [])))) (mPeek 1)))
    (M.pure .nx))))
def ph__law_draw : Phi := runDef 3 m__law_draw
def nn__law_pick : List Str := [(Str.ofString "_law_pot_here"), (Str.ofString "_law_row_here")]
def m__law_pick : M Fl := (mSeq (mRet (mOp2 (dr2 opIdx) (mPeek 1) (mZ (mCall ph__law_draw [.p 0, .p 1] (mCons (mVar 0) (mCons (mZ (mOpN (drN fLen) (mCons (mPeek 1) (M.pure [])))) (M.pure []))) (M.pure [])))))
    (M.pure .nx))
def ph__law_pick : Phi := runDef 2 m__law_pick
def nn__law_word : List Str := [(Str.ofString "_law_pot_here"), (Str.ofString "_law_signs"), (Str.ofString "_law_turn")]
def m__law_word : M Fl := (mSeq (mSet 1 (mOp2 (dr2 opAdd) (mZ (mOp2 (dr2 opAdd) (M.pure (.str (Str.ofString "abmz019"))) (mZ (mOp2 (dr2 opMul) (M.pure (.str (Str.ofString "abcxyz789"))) (mZ (mCall ph__law_draw [.p 0, .p 1] (mCons (mVar 0) (mCons (M.pure (.int 2)) (M.pure []))) (M.pure []))))))) (mZ (mOp2 (dr2 opMul) (M.pure (.str (Str.ofString "A_. -Z~"))) (mZ (mOpN (drN fInt) (mCons (mZ (mOp2 (dr2 opEq) (mZ (mCall ph__law_draw [.p 0, .p 1] (mCons (mVar 0) (mCons (M.pure (.int 4)) (M.pure []))) (M.pure []))) (M.pure (.int 0)))) (M.pure []))))))))
    (mSeq (mRet (mJoin (M.pure (.str (Str.ofString ""))) (mZ (mComp (mRng1 (mCons (mZ (mCall ph__law_draw [.p 0, .p 1] (mCons (mVar 0) (mCons (M.pure (.int 9)) (M.pure []))) (M.pure []))) (M.pure []))) [2] (.name 2) (M.pure true) (mZ (mCall ph__law_pick [.p 0, .p 1] (mCons (mVar 0) (mCons (mVar 1) (M.pure []))) (M.pure [])))))))
    (M.pure .nx)))
def ph__law_word : Phi := runDef 3 m__law_word
def nn__law_row : List Str := [(Str.ofString "_law_pot_here"), (Str.ofString "_law_many"), (Str.ofString "_law_row_here"), (Str.ofString "_law_word_here"), (Str.ofString "_law_other")]
def m__law_row : M Fl := (mSeq (mPar 3 4 (mCons (mZ (mCall ph__law_word [.p 0] (mCons (mVar 0) (M.pure [])) (M.pure []))) (mCons (mZ (mCall ph__law_word [.p 0] (mCons (mVar 0) (M.pure [])) (M.pure []))) (M.pure []))))
    (mSeq (mSet 1 (mCall ph__law_draw [.p 0, .p 1] (mCons (mVar 0) (mCons (mZ (mOp2 (dr2 opPow) (M.pure (.int 10)) (M.pure (.int 30)))) (M.pure []))) (M.pure [])))
    (mSeq (mSet 2 (mLst (mCons (mVar 3) (mCons (mZ (mTup (mCons (mVar 3) (mCons (mVar 4) (mCons (M.pure (.str (Str.ofString "a"))) (M.pure [])))))) (mCons (mZ (mTup (mCons (M.pure (.str (Str.ofString "t"))) (mCons (mVar 3) (mCons (mVar 4) (M.pure [])))))) (mCons (mZ (mLst (mCons (M.pure (.str (Str.ofString "t"))) (mCons (M.pure (.str (Str.ofString "a"))) (mCons (M.pure (.str (Str.ofString "b"))) (M.pure [])))))) (mCons (mZ (mTup (mCons (M.pure (.str (Str.ofString "t"))) (mCons (M.pure (.str (Str.ofString "a"))) (M.pure []))))) (mCons (mZ (mTup (mCons (M.pure (.str (Str.ofString "t"))) (mCons (M.pure (.str (Str.ofString "a"))) (mCons (M.pure (.str (Str.ofString "b"))) (mCons (M.pure (.str (Str.ofString "c"))) (M.pure []))))))) (mCons (mZ (mTup (mCons (mVar 3) (M.pure [])))) (M.pure []))))))))))
    (mSeq (mSet 2 (mOp2 (dr2 opAdd) (mPeek 2) (mZ (mLst (mCons (mZ (mTup (mCons (M.pure (.str (Str.ofString "t"))) (mCons (M.pure (.str (Str.ofString "a"))) (mCons (M.pure (.str (Str.ofString "b"))) (M.pure [])))))) (mCons (mZ (mTup (mCons (M.pure (.str (Str.ofString "t"))) (mCons (M.pure (.str (Str.ofString "t"))) (mCons (M.pure (.str (Str.ofString "t"))) (M.pure [])))))) (mCons (mZ (mTup (mCons (M.pure (.str (Str.ofString "t"))) (mCons (M.pure .non) (mCons (M.pure (.str (Str.ofString "b"))) (M.pure [])))))) (mCons (mZ (mTup (mCons (M.pure (.str (Str.ofString "t"))) (mCons (M.pure (.str (Str.ofString "a"))) (mCons (M.pure (.bl true)) (M.pure [])))))) (mCons (mZ (mTup (mCons (M.pure (.int 1)) (mCons (M.pure (.str (Str.ofString "a"))) (mCons (M.pure (.str (Str.ofString "b"))) (M.pure [])))))) (M.pure []))))))))))
    (mSeq (mSet 2 (mOp2 (dr2 opAdd) (mPeek 2) (mZ (mLst (mCons (mZ (mTup (mCons (mZ (mTup (mCons (M.pure (.str (Str.ofString "t"))) (M.pure [])))) (mCons (M.pure (.str (Str.ofString "a"))) (mCons (M.pure (.str (Str.ofString "b"))) (M.pure [])))))) (M.pure []))))))
    (mSeq (mSet 2 (mOp2 (dr2 opAdd) (mPeek 2) (mZ (mLst (mCons (mZ (mTup (mCons (M.pure (.str (Str.ofString "t"))) (mCons (mZ (mLst (mCons (M.pure (.str (Str.ofString "a"))) (M.pure [])))) (mCons (M.pure (.str (Str.ofString "b"))) (M.pure [])))))) (mCons (mZ (mTup (mCons (M.pure (.str (Str.ofString "abcdef"))) (mCons (M.pure (.str (Str.ofString "a"))) (mCons (M.pure (.str (Str.ofString "z9"))) (M.pure [])))))) (mCons (mZ (mTup (mCons (M.pure (.str (Str.ofString "abcdefg"))) (mCons (M.pure (.str (Str.ofString "a"))) (mCons (M.pure (.str (Str.ofString "b"))) (M.pure [])))))) (mCons (mZ (mTup (mCons (M.pure (.str (Str.ofString "t"))) (mCons (M.pure (.str (Str.ofString ""))) (mCons (M.pure (.str (Str.ofString "b"))) (M.pure [])))))) (mCons (mZ (mTup (mCons (M.pure (.str (Str.ofString "t"))) (mCons (M.pure (.str (Str.ofString "a"))) (mCons (M.pure (.str (Str.ofString "1"))) (M.pure [])))))) (M.pure []))))))))))
    (mSeq (mSet 2 (mOp2 (dr2 opAdd) (mPeek 2) (mZ (mLst (mCons (mVar 1) (mCons (mZ (mOp2 (dr2 opSub) (M.pure (.int 0)) (mPeek 1))) (mCons (M.pure (.int 0)) (mCons (M.pure (.int 1)) (mCons (mZ (mOp2 (dr2 opSub) (M.pure (.int 0)) (M.pure (.int 1)))) (mCons (M.pure (.bl true)) (mCons (M.pure (.bl false)) (mCons (M.pure .non) (mCons (M.pure (.str (Str.ofString ""))) (mCons (M.pure (.str (Str.ofString "a"))) (mCons (M.pure (.str (Str.ofString "a1"))) (mCons (M.pure (.str (Str.ofString "1a"))) (mCons (M.pure (.str (Str.ofString "abcdef"))) (mCons (M.pure (.str (Str.ofString "abcdefg"))) (mCons (M.pure (.str (Str.ofString "a b"))) (mCons (M.pure (.str (Str.ofString "A"))) (M.pure [])))))))))))))))))))))
    (mSeq (mRet (mOp2 (dr2 opAdd) (mPeek 2) (mZ (mLst (mCons (M.pure (.str (Str.ofString "a\n"))) (mCons (M.pure (.str (Str.ofString "\na"))) (mCons (mZ (mTup (mCons (M.pure (.str (Str.ofString "t"))) (mCons (M.pure (.str (Str.ofString "a"))) (mCons (M.pure (.str (Str.ofString "b\n"))) (M.pure [])))))) (mCons (mZ (mLst (M.pure []))) (mCons (mZ (mTup (M.pure []))) (mCons (mZ (mDict [])) (mCons (mZ (mDict [((mVar 3), (mVar 4))])) (mCons (mZ (mLst (mCons (M.pure (.int 1)) (M.pure [])))) (mCons (M.pure (.str (Str.ofString "tab"))) (M.pure []))))))))))))))
    (M.pure .nx)))))))))
def ph__law_row : Phi := runDef 5 m__law_row
def nn__law_is_number : List Str := [(Str.ofString "_law_one")]
def m__law_is_number : M Fl := (mSeq (mRet (mAndV (mZ (mOp1 (fIsi (isiD ["int"])) (mPeek 0))) (mAndV (mZ (mOp2 (dr2 (isF true)) (mPeek 0) (M.pure (.bl true)))) (mOp2 (dr2 (isF true)) (mPeek 0) (M.pure (.bl false))))))
    (M.pure .nx))
def ph__law_is_number : Phi := runDef 1 m__law_is_number
def nn__law_is_name : List Str := [(Str.ofString "_law_one"), (Str.ofString "_law_small"), (Str.ofString "_law_sign")]
def m__law_is_name : M Fl := (mSeq (mIf (mOr (mNot (mTr (mZ (mOp1 (fIsi (isiD ["str"])) (mPeek 0))))) (mOr (mBl (mOp2 (dr2 opEq) (mPeek 0) (M.pure (.str (Str.ofString ""))))) (mBl (mOp2 (dr2 opGt) (mZ (mOpN (drN fLen) (mCons (mPeek 0) (M.pure [])))) (M.pure (.int 6)))))) (mSeq (mRet (mE (M.pure (.bl false))))
    (M.pure .nx)) (M.pure .nx))
    (mSeq (mSet 1 (mE (M.pure (.str (Str.ofString "abcdefghijklmnopqrstuvwxyz")))))
    (mSeq (mRet (mAndV (mZ (mOp2 (drR (opIn false)) (mZ (mOp2 (dr2 opIdx) (mPeek 0) (M.pure (.int 0)))) (mPeek 1))) (mOpN (drN fAll) (mCons (mZ (mComp (mItems (mVar 0)) [2] (.name 2) (M.pure true) (mZ (mOrV (mZ (mOp2 (drR (opIn false)) (mVar 2) (mPeek 1))) (mOp2 (drR (opIn false)) (mVar 2) (M.pure (.str (Str.ofString "0123456789")))))))) (M.pure [])))))
    (M.pure .nx))))
def ph__law_is_name : Phi := runDef 3 m__law_is_name
def nn__law_is_move : List Str := [(Str.ofString "_law_one"), (Str.ofString "_law_part")]
def m__law_is_move : M Fl := (mSeq (mRet (mAndV (mZ (mOp1 (fIsi (isiD ["tuple"])) (mPeek 0))) (mAndV (mZ (mOp2 (dr2 opEq) (mZ (mOpN (drN fLen) (mCons (mPeek 0) (M.pure [])))) (M.pure (.int 3)))) (mOpN (drN fAll) (mCons (mZ (mComp (mItems (mVar 0)) [1] (.name 1) (M.pure true) (mZ (mCall ph__law_is_name [.p 0] (mCons (mVar 1) (M.pure [])) (M.pure []))))) (M.pure []))))))
    (M.pure .nx))
def ph__law_is_move : Phi := runDef 2 m__law_is_move
def nn_is_integer : List Str := [(Str.ofString "value")]
def m_is_integer : M Fl := (mSeq (mRet (mAndV (mZ (mOp1 (fIsi (isiD ["int"])) (mPeek 0))) (mNotV (mZ (mOp1 (fIsi (isiD ["bool"])) (mPeek 0))))))
    (M.pure .nx))
def ph_is_integer : Phi := runDef 1 m_is_integer
def nn_is_count : List Str := [(Str.ofString "value")]
def m_is_count : M Fl := (mSeq (mRet (mAndV (mZ (mCall ph_is_integer [.p 0] (mCons (mVar 0) (M.pure [])) (M.pure []))) (mOp2 (dr2 opGe) (mPeek 0) (M.pure (.int 0)))))
    (M.pure .nx))
def ph_is_count : Phi := runDef 1 m_is_count
def nn_is_name : List Str := [(Str.ofString "value"), (Str.ofString "sign")]
def m_is_name : M Fl := (mSeq (mIf (mOr (mNot (mTr (mZ (mOp1 (fIsi (isiD ["str"])) (mPeek 0))))) (mNot (mBl (mChain (dr2 opLe) (dr2 opLe) (M.pure (.int 1)) (mZ (mOpN (drN fLen) (mCons (mPeek 0) (M.pure [])))) (M.pure (.int 6)))))) (mSeq (mRet (mE (M.pure (.bl false))))
    (M.pure .nx)) (M.pure .nx))
    (mSeq (mRet (mAndV (mZ (mOp2 (drR (opIn false)) (mZ (mOp2 (dr2 opIdx) (mPeek 0) (M.pure (.int 0)))) (M.pure (.str (Str.ofString "abcdefghijklmnopqrstuvwxyz"))))) (mOpN (drN fAll) (mCons (mZ (mComp (mItems (mVar 0)) [1] (.name 1) (M.pure true) (mZ (mOp2 (drR (opIn false)) (mVar 1) (mZ (mOp2 (dr2 opAdd) (M.pure (.str (Str.ofString "abcdefghijklmnopqrstuvwxyz"))) (M.pure (.str (Str.ofString "0123456789"))))))))) (M.pure [])))))
    (M.pure .nx)))
def ph_is_name : Phi := runDef 2 m_is_name
def nn_is_move : List Str := [(Str.ofString "value"), (Str.ofString "name")]
def m_is_move : M Fl := (mSeq (mRet (mAndV (mZ (mOp1 (fIsi (isiD ["tuple"])) (mPeek 0))) (mAndV (mZ (mOp2 (dr2 opEq) (mZ (mOpN (drN fLen) (mCons (mPeek 0) (M.pure [])))) (M.pure (.int 3)))) (mOpN (drN fAll) (mCons (mZ (mComp (mItems (mVar 0)) [1] (.name 1) (M.pure true) (mZ (mCall ph_is_name [.p 0] (mCons (mVar 1) (M.pure [])) (M.pure []))))) (M.pure []))))))
    (M.pure .nx))
def ph_is_move : Phi := runDef 2 m_is_move
def nn__law_right : List Str := [(Str.ofString "_law_pot_here"), (Str.ofString "_law_row_here"), (Str.ofString "_law_shown"), (Str.ofString "_law_one"), (Str.ofString "_law_due"), (Str.ofString "_law_told")]
def m__law_right : M Fl := (mSeq (mSet 1 (mCall ph__law_row [.p 0] (mCons (mVar 0) (M.pure [])) (M.pure [])))
    (mSeq (mSet 2 (mRepr (mPeek 1)))
    (mSeq (mFor (mItems (mVar 1)) (.name 3) (mSeq (mSet 4 (mLst (mCons (mZ (mCall ph__law_is_number [.p 0] (mCons (mVar 3) (M.pure [])) (M.pure []))) (mCons (mZ (mAndV (mZ (mCall ph__law_is_number [.p 0] (mCons (mVar 3) (M.pure [])) (M.pure []))) (mOp2 (dr2 opGe) (mPeek 3) (M.pure (.int 0))))) (mCons (mZ (mCall ph__law_is_name [.p 0] (mCons (mVar 3) (M.pure [])) (M.pure []))) (mCons (mZ (mCall ph__law_is_move [.p 0] (mCons (mVar 3) (M.pure [])) (M.pure []))) (M.pure [])))))))
    (mSeq (mIf (mBl (mOp2 (dr2 opNe) (mZ (mRepr (mZ (mLst (mCons (mZ (mCall ph_is_integer [.p 0] (mCons (mVar 3) (M.pure [])) (M.pure []))) (mCons (mZ (mCall ph_is_count [.p 0] (mCons (mVar 3) (M.pure [])) (M.pure []))) (mCons (mZ (mCall ph_is_name [.p 0] (mCons (mVar 3) (M.pure [])) (M.pure []))) (mCons (mZ (mCall ph_is_move [.p 0] (mCons (mVar 3) (M.pure [])) (M.pure []))) (M.pure []))))))))) (mZ (mRepr (mPeek 4))))) (mSeq (mRet (mE (M.pure (.bl false))))
    (M.pure .nx)) (M.pure .nx))
    (mSeq (mSet 5 (mLst (mCons (mZ (mCall ph_is_integer [.k 0] (M.pure []) (mCons (mVar 3) (M.pure [])))) (mCons (mZ (mCall ph_is_count [.k 0] (M.pure []) (mCons (mVar 3) (M.pure [])))) (mCons (mZ (mCall ph_is_name [.k 0] (M.pure []) (mCons (mVar 3) (M.pure [])))) (mCons (mZ (mCall ph_is_move [.k 0] (M.pure []) (mCons (mVar 3) (M.pure [])))) (M.pure [])))))))
    (mSeq (mIf (mBl (mOp2 (dr2 opNe) (mZ (mRepr (mPeek 5))) (mZ (mRepr (mPeek 4))))) (mSeq (mRet (mE (M.pure (.bl false))))
    (M.pure .nx)) (M.pure .nx))
    (M.pure .nx))))))
    (mSeq (mRet (mOp2 (dr2 opEq) (mZ (mRepr (mPeek 1))) (mPeek 2)))
    (M.pure .nx)))))
def ph__law_right : Phi := runDef 6 m__law_right
def nn__law_pot : List Str := [(Str.ofString "_law_script"), (Str.ofString "_law_at"), (Str.ofString "_law_cell")]
def m__law_pot : M Fl := (mSeq (mSet 2 (mOp2 (dr2 opAdd) (mZ (mOp2 (dr2 opMul) (M.pure (.int 29)) (mPeek 1))) (M.pure (.int 19))))
    (mSeq (mIf (mBl (mOp2 (dr2 opLt) (mPeek 1) (mZ (mOpN (drN fLen) (mCons (mPeek 0) (M.pure [])))))) (mSeq (mSet 2 (mOpN (drN fAbs) (mCons (mZ (mOp2 (dr2 opIdx) (mPeek 0) (mPeek 1))) (M.pure []))))
    (M.pure .nx)) (M.pure .nx))
    (mSeq (mRet (mLst (mCons (mZ (mOpN (drN fMax) (mCons (M.pure (.int 0)) (mCons (mZ (mOp2 (dr2 opSub) (mPeek 2) (mZ (mOp2 (dr2 opPow) (M.pure (.int 10)) (M.pure (.int 18)))))) (M.pure []))))) (mCons (mZ (mOp2 (dr2 opAdd) (mZ (mOp2 (dr2 opMod) (mZ (mOp2 (dr2 opMul) (mZ (mOpN (drN fInt) (mCons (mZ (mOp2 (dr2 opAdd) (mZ (mOp2 (dr2 opMod) (mZ (mOpN (drN fInt) (mCons (mPeek 2) (M.pure [])))) (M.pure (.int 2147483549)))) (M.pure (.int 23)))) (M.pure [])))) (mZ (mOp2 (dr2 opPow) (mZ (mOp2 (dr2 opAdd) (mZ (mOp2 (dr2 opMul) (M.pure (.int 2)) (mPeek 1))) (M.pure (.int 9)))) (M.pure (.int 3)))))) (M.pure (.int 2147483477)))) (M.pure (.int 1)))) (M.pure [])))))
    (M.pure .nx))))
def ph__law_pot : Phi := runDef 3 m__law_pot
def nn_law : List Str := [(Str.ofString "_law_script"), (Str.ofString "_law_at")]
def m_law : M Fl := (mSeq (mRet (mOpN (drN fAll) (mCons (mZ (mComp (mRng1 (mCons (mZ (mOpN (drN fMax) (mCons (M.pure (.int 1)) (mCons (mZ (mOpN (drN fMin) (mCons (mZ (mOpN (drN fLen) (mCons (mPeek 0) (M.pure [])))) (mCons (M.pure (.int 4)) (M.pure []))))) (M.pure []))))) (M.pure []))) [1] (.name 1) (M.pure true) (mZ (mCall ph__law_right [.p 0] (mCons (mCell (mCall ph__law_pot [.p 0, .p 1] (mCons (mVar 0) (mCons (mVar 1) (M.pure []))) (M.pure []))) (M.pure [])) (M.pure []))))) (M.pure []))))
    (M.pure .nx))
def ph_law : Phi := runDef 2 m_law
end K10
namespace K10
open PySem PySem.Spec L2 EL
def top (i : Nat) : Stmt := PySem.Challenge.pw_neverlost_k10_names_and_moves.main.body.getD i (.Pass ⟨0, 0, 0, 0⟩)
section
variable {g : Glob} {base : Heap} {f : Addr}
theorem sc__law_draw : FnScope nn__law_draw [(Str.ofString "_law_pot_here"), (Str.ofString "_law_size")] (defScope (top 10)) := ⟨rfl, rfl, rfl, by decide +kernel, rfl, by decide +kernel, by decide +kernel⟩
theorem bd__law_draw (n_divmod : g.mg (Str.ofString "divmod") = none) (n_int : g.mg (Str.ofString "int") = none) : BodyOk g base 0 nn__law_draw (Str.ofString "_law_draw") (defScope (top 10)) f (defBody (top 10)) m__law_draw := by
  intro cdv A outer s H E F hr hgd
  have hu := hr.units
  have tk := takes_cxF (g := g) (base := base) (N := nn__law_draw) (qual := (Str.ofString "_law_draw")) (scope := defScope (top 10)) (f := f) (cdv := cdv) (A := A) (outer := outer) (s := s) (H := H) (E := E)
  have hN := sc__law_draw.nd
  exact (sSCons (sIf (wCmpT s_gt (sO (sZ (wIdx (wPeek 0) (sO wInt)))) (sO wInt)) (sSCons (wPot (ip := 0) (jd := 2) hN (pv 0) (sO wInt) (sZ (wB s_divmod n_divmod (wOCons (sO (sZ (wIdx (wPeek 0) (sO wInt)))) (wOCons (wPeek 1) sONil)))))
    (sSCons (sRet (wE (wVar 2)))
    sSNil)) sSNil)
    (sSCons (wSetI (ip := 0) (pv 0) (sO wInt) (sZ (wBin s_mod (sO (sZ (wTy s_int n_int (wOCons (sO (sZ (wBin s_add (sO (sZ (wBin s_mul (sO (sZ (wIdx (wPeek 0) (sO wInt)))) (sO wInt)))) (sO wInt)))) sONil)))) (sO wInt))))
    (sSCons (sRet (wBin s_mod (sO (sZ (wTy s_int n_int (wOCons (sO (sZ (wBin s_fdiv (sO (sZ (wBin s_mod (sO (sZ (wTy s_int n_int (wOCons (sO (sZ (wBin s_mul (sO (sZ (wIdx (wPeek 0) (sO wInt)))) (sO (sZ (wIdx (wPeek 0) (sO wInt))))))) sONil)))) (sO wInt)))) (sO wInt)))) sONil)))) (wPeek 1)))
    sSNil)))
theorem sc__law_pick : FnScope nn__law_pick [(Str.ofString "_law_pot_here"), (Str.ofString "_law_row_here")] (defScope (top 11)) := ⟨rfl, rfl, rfl, by decide +kernel, rfl, by decide +kernel, by decide +kernel⟩
theorem bd__law_pick (n_len : g.mg (Str.ofString "len") = none) {f__law_draw : Addr} {fd__law_draw : FuncData} (c__law_draw : Fnc g base 1 (Str.ofString "_law_draw") [(Str.ofString "_law_pot_here"), (Str.ofString "_law_size")] ph__law_draw f__law_draw fd__law_draw) {gb__law_draw_2 : List Value → List Value → List Value} (b__law_draw_2 : KBn g.K fd__law_draw [(Str.ofString "_law_pot_here"), (Str.ofString "_law_size")] 2 [] gb__law_draw_2 (arrV [.p 0, .p 1])) : BodyOk g base 1 nn__law_pick (Str.ofString "_law_pick") (defScope (top 11)) f (defBody (top 11)) m__law_pick := by
  intro cdv A outer s H E F hr hgd
  have hu := hr.units
  have tk := takes_cxF (g := g) (base := base) (N := nn__law_pick) (qual := (Str.ofString "_law_pick")) (scope := defScope (top 11)) (f := f) (cdv := cdv) (A := A) (outer := outer) (s := s) (H := H) (E := E)
  have hN := sc__law_pick.nd
  exact (sSCons (sRet (wIdx (wPeek 1) (sO (sZ (sNE (wCall (ks := []) [.p 0, .p 1] c__law_draw.ok c__law_draw.mg c__law_draw.kp hr b__law_draw_2 tk (wACons (wVar 0) (wACons (sZ (wB s_len n_len (wOCons (wPeek 1) sONil))) sANil)) sKNil (Many.cons (Many.cons Many.nil)) Many.nil (dfl_nil rfl)))))))
    sSNil)
theorem sc__law_word : FnScope nn__law_word [(Str.ofString "_law_pot_here")] (defScope (top 12)) := ⟨rfl, rfl, rfl, by decide +kernel, rfl, by decide +kernel, by decide +kernel⟩
theorem bd__law_word (n_int : g.mg (Str.ofString "int") = none) (n_range : g.mg (Str.ofString "range") = none) {f__law_draw : Addr} {fd__law_draw : FuncData} (c__law_draw : Fnc g base 1 (Str.ofString "_law_draw") [(Str.ofString "_law_pot_here"), (Str.ofString "_law_size")] ph__law_draw f__law_draw fd__law_draw) {f__law_pick : Addr} {fd__law_pick : FuncData} (c__law_pick : Fnc g base 2 (Str.ofString "_law_pick") [(Str.ofString "_law_pot_here"), (Str.ofString "_law_row_here")] ph__law_pick f__law_pick fd__law_pick) {gb__law_draw_2 : List Value → List Value → List Value} (b__law_draw_2 : KBn g.K fd__law_draw [(Str.ofString "_law_pot_here"), (Str.ofString "_law_size")] 2 [] gb__law_draw_2 (arrV [.p 0, .p 1])) {gb__law_pick_2 : List Value → List Value → List Value} (b__law_pick_2 : KBn g.K fd__law_pick [(Str.ofString "_law_pot_here"), (Str.ofString "_law_row_here")] 2 [] gb__law_pick_2 (arrV [.p 0, .p 1])) : BodyOk g base 2 nn__law_word (Str.ofString "_law_word") (defScope (top 12)) f (defBody (top 12)) m__law_word := by
  intro cdv A outer s H E F hr hgd
  have hu := hr.units
  have tk := takes_cxF (g := g) (base := base) (N := nn__law_word) (qual := (Str.ofString "_law_word")) (scope := defScope (top 12)) (f := f) (cdv := cdv) (A := A) (outer := outer) (s := s) (H := H) (E := E)
  have hN := sc__law_word.nd
  exact (sSCons (wSet (i := 1) hN (wBin s_add (sO (sZ (wBin s_add (sO wStr) (sO (sZ (wBin s_mul (sO wStr) (sO (sZ (sNE (wCall (ks := []) [.p 0, .p 1] c__law_draw.ok c__law_draw.mg c__law_draw.kp hr b__law_draw_2 tk (wACons (wVar 0) (wACons wInt sANil)) sKNil (Many.cons (Many.cons Many.nil)) Many.nil (dfl_nil rfl))))))))))) (sO (sZ (wBin s_mul (sO wStr) (sO (sZ (wTy s_int n_int (wOCons (sO (sZ (wCmp s_eq (sO (sZ (sNE (wCall (ks := []) [.p 0, .p 1] c__law_draw.ok c__law_draw.mg c__law_draw.kp hr b__law_draw_2 tk (wACons (wVar 0) (wACons wInt sANil)) sKNil (Many.cons (Many.cons Many.nil)) Many.nil (dfl_nil rfl))))) (sO wInt)))) sONil)))))))))
    (sSCons (sRet (wJoin wStr (sO (sZ (sLC (own := [(Str.ofString "_law_turn", 2)]) rfl hN (wRng1 n_range (wACons (sZ (sNE (wCall (ks := []) [.p 0, .p 1] c__law_draw.ok c__law_draw.mg c__law_draw.kp hr b__law_draw_2 tk (wACons (wVar 0) (wACons wInt sANil)) sKNil (Many.cons (Many.cons Many.nil)) Many.nil (dfl_nil rfl)))) sANil)) (blkOk_by rfl) (fun F s H C cl fp => (wTgN hN)) (fun F s H C cl fp => sTsNil) (fun F s H C cl fp => (sZ (sNE (wCall (ks := []) [.p 0, .p 1] c__law_pick.ok c__law_pick.mg c__law_pick.kp hr b__law_pick_2 takes0 (wACons (wVar 0) (wACons (wVar 1) sANil)) sKNil (Many.cons (Many.cons Many.nil)) Many.nil (dfl_nil rfl))))) (fun _ => rfl))))))
    sSNil))
theorem sc__law_row : FnScope nn__law_row [(Str.ofString "_law_pot_here")] (defScope (top 16)) := ⟨rfl, rfl, rfl, by decide +kernel, rfl, by decide +kernel, by decide +kernel⟩
theorem bd__law_row {f__law_word : Addr} {fd__law_word : FuncData} (c__law_word : Fnc g base 3 (Str.ofString "_law_word") [(Str.ofString "_law_pot_here")] ph__law_word f__law_word fd__law_word) {f__law_draw : Addr} {fd__law_draw : FuncData} (c__law_draw : Fnc g base 1 (Str.ofString "_law_draw") [(Str.ofString "_law_pot_here"), (Str.ofString "_law_size")] ph__law_draw f__law_draw fd__law_draw) {gb__law_word_1 : List Value → List Value → List Value} (b__law_word_1 : KBn g.K fd__law_word [(Str.ofString "_law_pot_here")] 1 [] gb__law_word_1 (arrV [.p 0])) {gb__law_draw_2 : List Value → List Value → List Value} (b__law_draw_2 : KBn g.K fd__law_draw [(Str.ofString "_law_pot_here"), (Str.ofString "_law_size")] 2 [] gb__law_draw_2 (arrV [.p 0, .p 1])) : BodyOk g base 3 nn__law_row (Str.ofString "_law_row") (defScope (top 16)) f (defBody (top 16)) m__law_row := by
  intro cdv A outer s H E F hr hgd
  have hu := hr.units
  have tk := takes_cxF (g := g) (base := base) (N := nn__law_row) (qual := (Str.ofString "_law_row")) (scope := defScope (top 16)) (f := f) (cdv := cdv) (A := A) (outer := outer) (s := s) (H := H) (E := E)
  have hN := sc__law_row.nd
  exact (sSCons (wPar (i := 3) (j := 4) hN (wACons (sZ (sNE (wCall (ks := []) [.p 0] c__law_word.ok c__law_word.mg c__law_word.kp hr b__law_word_1 tk (wACons (wVar 0) sANil) sKNil (Many.cons Many.nil) Many.nil (dfl_nil rfl)))) (wACons (sZ (sNE (wCall (ks := []) [.p 0] c__law_word.ok c__law_word.mg c__law_word.kp hr b__law_word_1 tk (wACons (wVar 0) sANil) sKNil (Many.cons Many.nil) Many.nil (dfl_nil rfl)))) sANil)))
    (sSCons (wSet (i := 1) hN (sNE (wCall (ks := []) [.p 0, .p 1] c__law_draw.ok c__law_draw.mg c__law_draw.kp hr b__law_draw_2 tk (wACons (wVar 0) (wACons (sZ (wBin s_pow (sO wInt) (sO wInt))) sANil)) sKNil (Many.cons (Many.cons Many.nil)) Many.nil (dfl_nil rfl))))
    (sSCons (wSet (i := 2) hN (wLst (wACons (wVar 3) (wACons (sZ (wTup (wACons (wVar 3) (wACons (wVar 4) (wACons wStr sANil))) (Many.cons (Many.cons (Many.cons Many.nil))))) (wACons (sZ (wTup (wACons wStr (wACons (wVar 3) (wACons (wVar 4) sANil))) (Many.cons (Many.cons (Many.cons Many.nil))))) (wACons (sZ (wLst (wACons wStr (wACons wStr (wACons wStr sANil))) (Many.cons (Many.cons (Many.cons Many.nil))))) (wACons (sZ (wTup (wACons wStr (wACons wStr sANil)) (Many.cons (Many.cons Many.nil)))) (wACons (sZ (wTup (wACons wStr (wACons wStr (wACons wStr (wACons wStr sANil)))) (Many.cons (Many.cons (Many.cons (Many.cons Many.nil)))))) (wACons (sZ (wTup (wACons (wVar 3) sANil) (Many.cons Many.nil))) sANil))))))) (Many.cons (Many.cons (Many.cons (Many.cons (Many.cons (Many.cons (Many.cons Many.nil)))))))))
    (sSCons (wSet (i := 2) hN (wBin s_add (wPeek 2) (sO (sZ (wLst (wACons (sZ (wTup (wACons wStr (wACons wStr (wACons wStr sANil))) (Many.cons (Many.cons (Many.cons Many.nil))))) (wACons (sZ (wTup (wACons wStr (wACons wStr (wACons wStr sANil))) (Many.cons (Many.cons (Many.cons Many.nil))))) (wACons (sZ (wTup (wACons wStr (wACons wNon (wACons wStr sANil))) (Many.cons (Many.cons (Many.cons Many.nil))))) (wACons (sZ (wTup (wACons wStr (wACons wStr (wACons wBl sANil))) (Many.cons (Many.cons (Many.cons Many.nil))))) (wACons (sZ (wTup (wACons wInt (wACons wStr (wACons wStr sANil))) (Many.cons (Many.cons (Many.cons Many.nil))))) sANil))))) (Many.cons (Many.cons (Many.cons (Many.cons (Many.cons Many.nil))))))))))
    (sSCons (wSet (i := 2) hN (wBin s_add (wPeek 2) (sO (sZ (wLst (wACons (sZ (wTup (wACons (sZ (wTup (wACons wStr sANil) (Many.cons Many.nil))) (wACons wStr (wACons wStr sANil))) (Many.cons (Many.cons (Many.cons Many.nil))))) sANil) (Many.cons Many.nil))))))
    (sSCons (wSet (i := 2) hN (wBin s_add (wPeek 2) (sO (sZ (wLst (wACons (sZ (wTup (wACons wStr (wACons (sZ (wLst (wACons wStr sANil) (Many.cons Many.nil))) (wACons wStr sANil))) (Many.cons (Many.cons (Many.cons Many.nil))))) (wACons (sZ (wTup (wACons wStr (wACons wStr (wACons wStr sANil))) (Many.cons (Many.cons (Many.cons Many.nil))))) (wACons (sZ (wTup (wACons wStr (wACons wStr (wACons wStr sANil))) (Many.cons (Many.cons (Many.cons Many.nil))))) (wACons (sZ (wTup (wACons wStr (wACons wStr (wACons wStr sANil))) (Many.cons (Many.cons (Many.cons Many.nil))))) (wACons (sZ (wTup (wACons wStr (wACons wStr (wACons wStr sANil))) (Many.cons (Many.cons (Many.cons Many.nil))))) sANil))))) (Many.cons (Many.cons (Many.cons (Many.cons (Many.cons Many.nil))))))))))
    (sSCons (wSet (i := 2) hN (wBin s_add (wPeek 2) (sO (sZ (wLst (wACons (wVar 1) (wACons (sZ (wBin s_sub (sO wInt) (wPeek 1))) (wACons wInt (wACons wInt (wACons (sZ (wBin s_sub (sO wInt) (sO wInt))) (wACons wBl (wACons wBl (wACons wNon (wACons wStr (wACons wStr (wACons wStr (wACons wStr (wACons wStr (wACons wStr (wACons wStr (wACons wStr sANil)))))))))))))))) (Many.cons (Many.cons (Many.cons (Many.cons (Many.cons (Many.cons (Many.cons (Many.cons (Many.cons (Many.cons (Many.cons (Many.cons (Many.cons (Many.cons (Many.cons (Many.cons Many.nil)))))))))))))))))))))
    (sSCons (sRet (wBin s_add (wPeek 2) (sO (sZ (wLst (wACons wStr (wACons wStr (wACons (sZ (wTup (wACons wStr (wACons wStr (wACons wStr sANil))) (Many.cons (Many.cons (Many.cons Many.nil))))) (wACons (sZ (wLst sANil Many.nil)) (wACons (sZ (wTup sANil Many.nil)) (wACons (sZ wDict0) (wACons (sZ (wDict (.cons (fun F => (wVar 3)) (fun F => (wVar 4)) .nil))) (wACons (sZ (wLst (wACons wInt sANil) (Many.cons Many.nil))) (wACons wStr sANil))))))))) (Many.cons (Many.cons (Many.cons (Many.cons (Many.cons (Many.cons (Many.cons (Many.cons (Many.cons Many.nil))))))))))))))
    sSNil))))))))
theorem sc__law_is_number : FnScope nn__law_is_number [(Str.ofString "_law_one")] (defScope (top 15)) := ⟨rfl, rfl, rfl, by decide +kernel, rfl, by decide +kernel, by decide +kernel⟩
theorem bd__law_is_number (n_isinstance : g.mg (Str.ofString "isinstance") = none) (n_int : g.mg (Str.ofString "int") = none) : BodyOk g base 0 nn__law_is_number (Str.ofString "_law_is_number") (defScope (top 15)) f (defBody (top 15)) m__law_is_number := by
  intro cdv A outer s H E F hr hgd
  have hu := hr.units
  have tk := takes_cxF (g := g) (base := base) (N := nn__law_is_number) (qual := (Str.ofString "_law_is_number")) (scope := defScope (top 15)) (f := f) (cdv := cdv) (A := A) (outer := outer) (s := s) (H := H) (E := E)
  have hN := sc__law_is_number.nd
  exact (sSCons (sRet (wAndV (sZ (wIsi "int" n_isinstance (wPeek 0) (wT "int" n_int))) (wAndV (sZ (wCmp s_nis (wPeek 0) (sO wBl))) (wOneV (wCmp s_nis (wPeek 0) (sO wBl))))))
    sSNil)
theorem sc__law_is_name : FnScope nn__law_is_name [(Str.ofString "_law_one")] (defScope (top 13)) := ⟨rfl, rfl, rfl, by decide +kernel, rfl, by decide +kernel, by decide +kernel⟩
theorem bd__law_is_name (n_isinstance : g.mg (Str.ofString "isinstance") = none) (n_str : g.mg (Str.ofString "str") = none) (n_len : g.mg (Str.ofString "len") = none) (n_all : g.mg (Str.ofString "all") = none) : BodyOk g base 0 nn__law_is_name (Str.ofString "_law_is_name") (defScope (top 13)) f (defBody (top 13)) m__law_is_name := by
  intro cdv A outer s H E F hr hgd
  have hu := hr.units
  have tk := takes_cxF (g := g) (base := base) (N := nn__law_is_name) (qual := (Str.ofString "_law_is_name")) (scope := defScope (top 13)) (f := f) (cdv := cdv) (A := A) (outer := outer) (s := s) (H := H) (E := E)
  have hN := sc__law_is_name.nd
  exact (sSCons (sIf (PW.pt (sOrC (wNotT (wTrue (sO (sZ (wIsi "str" n_isinstance (wPeek 0) (wT "str" n_str)))))) (sOrC (wCmpT s_eq (wPeek 0) (sO wStr)) (sOr1 (wCmpT s_gt (sO (sZ (wB s_len n_len (wOCons (wPeek 0) sONil)))) (sO wInt)))))) (sSCons (sRet (wE wBl))
    sSNil) sSNil)
    (sSCons (wSet (i := 1) hN (wE wStr))
    (sSCons (sRet (wAndV (sZ (wIn (sZ (wIdx (wPeek 0) (sO wInt))) (wPeek 1))) (wOneV (wB s_all n_all (wOCons (sO (sZ (sLC (own := [(Str.ofString "_law_sign", 2)]) rfl hN (wISeq (wVar 0)) (blkOk_by rfl) (fun F s H C cl fp => (wTgN hN)) (fun F s H C cl fp => sTsNil) (fun F s H C cl fp => (sZ (wOrV (sZ (wIn (wVar 2) (wPeek 1))) (wOneV (wIn (wVar 2) (sO wStr)))))) (fun _ => rfl)))) sONil)))))
    sSNil)))
theorem sc__law_is_move : FnScope nn__law_is_move [(Str.ofString "_law_one")] (defScope (top 14)) := ⟨rfl, rfl, rfl, by decide +kernel, rfl, by decide +kernel, by decide +kernel⟩
theorem bd__law_is_move (n_isinstance : g.mg (Str.ofString "isinstance") = none) (n_tuple : g.mg (Str.ofString "tuple") = none) (n_len : g.mg (Str.ofString "len") = none) (n_all : g.mg (Str.ofString "all") = none) {f__law_is_name : Addr} {fd__law_is_name : FuncData} (c__law_is_name : Fnc g base 1 (Str.ofString "_law_is_name") [(Str.ofString "_law_one")] ph__law_is_name f__law_is_name fd__law_is_name) {gb__law_is_name_1 : List Value → List Value → List Value} (b__law_is_name_1 : KBn g.K fd__law_is_name [(Str.ofString "_law_one")] 1 [] gb__law_is_name_1 (arrV [.p 0])) : BodyOk g base 1 nn__law_is_move (Str.ofString "_law_is_move") (defScope (top 14)) f (defBody (top 14)) m__law_is_move := by
  intro cdv A outer s H E F hr hgd
  have hu := hr.units
  have tk := takes_cxF (g := g) (base := base) (N := nn__law_is_move) (qual := (Str.ofString "_law_is_move")) (scope := defScope (top 14)) (f := f) (cdv := cdv) (A := A) (outer := outer) (s := s) (H := H) (E := E)
  have hN := sc__law_is_move.nd
  exact (sSCons (sRet (wAndV (sZ (wIsi "tuple" n_isinstance (wPeek 0) (wT "tuple" n_tuple))) (wAndV (sZ (wCmp s_eq (sO (sZ (wB s_len n_len (wOCons (wPeek 0) sONil)))) (sO wInt))) (wOneV (wB s_all n_all (wOCons (sO (sZ (sLC (own := [(Str.ofString "_law_part", 1)]) rfl hN (wISeq (wVar 0)) (blkOk_by rfl) (fun F s H C cl fp => (wTgN hN)) (fun F s H C cl fp => sTsNil) (fun F s H C cl fp => (sZ (sNE (wCall (ks := []) [.p 0] c__law_is_name.ok c__law_is_name.mg c__law_is_name.kp hr b__law_is_name_1 takes0 (wACons (wVar 1) sANil) sKNil (Many.cons Many.nil) Many.nil (dfl_nil rfl))))) (fun _ => rfl)))) sONil))))))
    sSNil)
theorem sc_is_integer : FnScope nn_is_integer [(Str.ofString "value")] (defScope (top 4)) := ⟨rfl, rfl, rfl, by decide +kernel, rfl, by decide +kernel, by decide +kernel⟩
theorem bd_is_integer (n_isinstance : g.mg (Str.ofString "isinstance") = none) (n_int : g.mg (Str.ofString "int") = none) (n_bool : g.mg (Str.ofString "bool") = none) : BodyOk g base 0 nn_is_integer (Str.ofString "is_integer") (defScope (top 4)) f (defBody (top 4)) m_is_integer := by
  intro cdv A outer s H E F hr hgd
  have hu := hr.units
  have tk := takes_cxF (g := g) (base := base) (N := nn_is_integer) (qual := (Str.ofString "is_integer")) (scope := defScope (top 4)) (f := f) (cdv := cdv) (A := A) (outer := outer) (s := s) (H := H) (E := E)
  have hN := sc_is_integer.nd
  exact (sSCons (sRet (wAndV (sZ (wIsi "int" n_isinstance (wPeek 0) (wT "int" n_int))) (wOneV (wNotV (sO (sZ (wIsi "bool" n_isinstance (wPeek 0) (wT "bool" n_bool))))))))
    sSNil)
theorem sc_is_count : FnScope nn_is_count [(Str.ofString "value")] (defScope (top 5)) := ⟨rfl, rfl, rfl, by decide +kernel, rfl, by decide +kernel, by decide +kernel⟩
theorem bd_is_count {f_is_integer : Addr} {fd_is_integer : FuncData} (c_is_integer : Fnc g base 1 (Str.ofString "is_integer") [(Str.ofString "value")] ph_is_integer f_is_integer fd_is_integer) {gb_is_integer_1 : List Value → List Value → List Value} (b_is_integer_1 : KBn g.K fd_is_integer [(Str.ofString "value")] 1 [] gb_is_integer_1 (arrV [.p 0])) : BodyOk g base 1 nn_is_count (Str.ofString "is_count") (defScope (top 5)) f (defBody (top 5)) m_is_count := by
  intro cdv A outer s H E F hr hgd
  have hu := hr.units
  have tk := takes_cxF (g := g) (base := base) (N := nn_is_count) (qual := (Str.ofString "is_count")) (scope := defScope (top 5)) (f := f) (cdv := cdv) (A := A) (outer := outer) (s := s) (H := H) (E := E)
  have hN := sc_is_count.nd
  exact (sSCons (sRet (wAndV (sZ (sNE (wCall (ks := []) [.p 0] c_is_integer.ok c_is_integer.mg c_is_integer.kp hr b_is_integer_1 tk (wACons (wVar 0) sANil) sKNil (Many.cons Many.nil) Many.nil (dfl_nil rfl)))) (wOneV (wCmp s_ge (wPeek 0) (sO wInt)))))
    sSNil)
theorem sc_is_name : FnScope nn_is_name [(Str.ofString "value")] (defScope (top 6)) := ⟨rfl, rfl, rfl, by decide +kernel, rfl, by decide +kernel, by decide +kernel⟩
theorem bd_is_name (n_isinstance : g.mg (Str.ofString "isinstance") = none) (n_str : g.mg (Str.ofString "str") = none) (n_len : g.mg (Str.ofString "len") = none) (n_all : g.mg (Str.ofString "all") = none) (i_MOST_NAME : ∃ t, g.mg (Str.ofString "MOST_NAME") = some (.int 6 t)) (s_LETTERS : ∃ t, g.mg (Str.ofString "LETTERS") = some (.str (Str.ofString "abcdefghijklmnopqrstuvwxyz") t)) (s_DIGITS : ∃ t, g.mg (Str.ofString "DIGITS") = some (.str (Str.ofString "0123456789") t)) : BodyOk g base 0 nn_is_name (Str.ofString "is_name") (defScope (top 6)) f (defBody (top 6)) m_is_name := by
  intro cdv A outer s H E F hr hgd
  have hu := hr.units
  have tk := takes_cxF (g := g) (base := base) (N := nn_is_name) (qual := (Str.ofString "is_name")) (scope := defScope (top 6)) (f := f) (cdv := cdv) (A := A) (outer := outer) (s := s) (H := H) (E := E)
  have hN := sc_is_name.nd
  exact (sSCons (sIf (PW.pt (sOrC (wNotT (wTrue (sO (sZ (wIsi "str" n_isinstance (wPeek 0) (wT "str" n_str)))))) (sOr1 (wNotT (wChainT s_le s_le (sO wInt) (sO (sZ (wB s_len n_len (wOCons (wPeek 0) sONil)))) (sO (wGInt i_MOST_NAME))))))) (sSCons (sRet (wE wBl))
    sSNil) sSNil)
    (sSCons (sRet (wAndV (sZ (wIn (sZ (wIdx (wPeek 0) (sO wInt))) (sO (wGStr s_LETTERS)))) (wOneV (wB s_all n_all (wOCons (sO (sZ (sLC (own := [(Str.ofString "sign", 1)]) rfl hN (wISeq (wVar 0)) (blkOk_by rfl) (fun F s H C cl fp => (wTgN hN)) (fun F s H C cl fp => sTsNil) (fun F s H C cl fp => (sZ (wIn (wVar 1) (sO (sZ (wBin s_add (sO (wGStr s_LETTERS)) (sO (wGStr s_DIGITS)))))))) (fun _ => rfl)))) sONil)))))
    sSNil))
theorem sc_is_move : FnScope nn_is_move [(Str.ofString "value")] (defScope (top 7)) := ⟨rfl, rfl, rfl, by decide +kernel, rfl, by decide +kernel, by decide +kernel⟩
theorem bd_is_move (n_isinstance : g.mg (Str.ofString "isinstance") = none) (n_tuple : g.mg (Str.ofString "tuple") = none) (n_len : g.mg (Str.ofString "len") = none) (n_all : g.mg (Str.ofString "all") = none) {f_is_name : Addr} {fd_is_name : FuncData} (c_is_name : Fnc g base 1 (Str.ofString "is_name") [(Str.ofString "value")] ph_is_name f_is_name fd_is_name) {gb_is_name_1 : List Value → List Value → List Value} (b_is_name_1 : KBn g.K fd_is_name [(Str.ofString "value")] 1 [] gb_is_name_1 (arrV [.p 0])) : BodyOk g base 1 nn_is_move (Str.ofString "is_move") (defScope (top 7)) f (defBody (top 7)) m_is_move := by
  intro cdv A outer s H E F hr hgd
  have hu := hr.units
  have tk := takes_cxF (g := g) (base := base) (N := nn_is_move) (qual := (Str.ofString "is_move")) (scope := defScope (top 7)) (f := f) (cdv := cdv) (A := A) (outer := outer) (s := s) (H := H) (E := E)
  have hN := sc_is_move.nd
  exact (sSCons (sRet (wAndV (sZ (wIsi "tuple" n_isinstance (wPeek 0) (wT "tuple" n_tuple))) (wAndV (sZ (wCmp s_eq (sO (sZ (wB s_len n_len (wOCons (wPeek 0) sONil)))) (sO wInt))) (wOneV (wB s_all n_all (wOCons (sO (sZ (sLC (own := [(Str.ofString "name", 1)]) rfl hN (wISeq (wVar 0)) (blkOk_by rfl) (fun F s H C cl fp => (wTgN hN)) (fun F s H C cl fp => sTsNil) (fun F s H C cl fp => (sZ (sNE (wCall (ks := []) [.p 0] c_is_name.ok c_is_name.mg c_is_name.kp hr b_is_name_1 takes0 (wACons (wVar 1) sANil) sKNil (Many.cons Many.nil) Many.nil (dfl_nil rfl))))) (fun _ => rfl)))) sONil))))))
    sSNil)
theorem sc__law_right : FnScope nn__law_right [(Str.ofString "_law_pot_here")] (defScope (top 17)) := ⟨rfl, rfl, rfl, by decide +kernel, rfl, by decide +kernel, by decide +kernel⟩
theorem bd__law_right (hsy : SysIn g.K) (n_repr : g.mg (Str.ofString "repr") = none) {f__law_row : Addr} {fd__law_row : FuncData} (c__law_row : Fnc g base 4 (Str.ofString "_law_row") [(Str.ofString "_law_pot_here")] ph__law_row f__law_row fd__law_row) {f__law_is_number : Addr} {fd__law_is_number : FuncData} (c__law_is_number : Fnc g base 1 (Str.ofString "_law_is_number") [(Str.ofString "_law_one")] ph__law_is_number f__law_is_number fd__law_is_number) {f__law_is_name : Addr} {fd__law_is_name : FuncData} (c__law_is_name : Fnc g base 1 (Str.ofString "_law_is_name") [(Str.ofString "_law_one")] ph__law_is_name f__law_is_name fd__law_is_name) {f__law_is_move : Addr} {fd__law_is_move : FuncData} (c__law_is_move : Fnc g base 2 (Str.ofString "_law_is_move") [(Str.ofString "_law_one")] ph__law_is_move f__law_is_move fd__law_is_move) {f_is_integer : Addr} {fd_is_integer : FuncData} (c_is_integer : Fnc g base 1 (Str.ofString "is_integer") [(Str.ofString "value")] ph_is_integer f_is_integer fd_is_integer) {f_is_count : Addr} {fd_is_count : FuncData} (c_is_count : Fnc g base 2 (Str.ofString "is_count") [(Str.ofString "value")] ph_is_count f_is_count fd_is_count) {f_is_name : Addr} {fd_is_name : FuncData} (c_is_name : Fnc g base 1 (Str.ofString "is_name") [(Str.ofString "value")] ph_is_name f_is_name fd_is_name) {f_is_move : Addr} {fd_is_move : FuncData} (c_is_move : Fnc g base 2 (Str.ofString "is_move") [(Str.ofString "value")] ph_is_move f_is_move fd_is_move) {gb__law_row_1 : List Value → List Value → List Value} (b__law_row_1 : KBn g.K fd__law_row [(Str.ofString "_law_pot_here")] 1 [] gb__law_row_1 (arrV [.p 0])) {gb__law_is_number_1 : List Value → List Value → List Value} (b__law_is_number_1 : KBn g.K fd__law_is_number [(Str.ofString "_law_one")] 1 [] gb__law_is_number_1 (arrV [.p 0])) {gb__law_is_name_1 : List Value → List Value → List Value} (b__law_is_name_1 : KBn g.K fd__law_is_name [(Str.ofString "_law_one")] 1 [] gb__law_is_name_1 (arrV [.p 0])) {gb__law_is_move_1 : List Value → List Value → List Value} (b__law_is_move_1 : KBn g.K fd__law_is_move [(Str.ofString "_law_one")] 1 [] gb__law_is_move_1 (arrV [.p 0])) {gb_is_integer_1 : List Value → List Value → List Value} (b_is_integer_1 : KBn g.K fd_is_integer [(Str.ofString "value")] 1 [] gb_is_integer_1 (arrV [.p 0])) {gb_is_count_1 : List Value → List Value → List Value} (b_is_count_1 : KBn g.K fd_is_count [(Str.ofString "value")] 1 [] gb_is_count_1 (arrV [.p 0])) {gb_is_name_1 : List Value → List Value → List Value} (b_is_name_1 : KBn g.K fd_is_name [(Str.ofString "value")] 1 [] gb_is_name_1 (arrV [.p 0])) {gb_is_move_1 : List Value → List Value → List Value} (b_is_move_1 : KBn g.K fd_is_move [(Str.ofString "value")] 1 [] gb_is_move_1 (arrV [.p 0])) {gb_is_integer_0_value : List Value → List Value → List Value} (b_is_integer_0_value : KBn g.K fd_is_integer [(Str.ofString "value")] 0 [(Str.ofString "value")] gb_is_integer_0_value (arrV [.k 0])) {gb_is_count_0_value : List Value → List Value → List Value} (b_is_count_0_value : KBn g.K fd_is_count [(Str.ofString "value")] 0 [(Str.ofString "value")] gb_is_count_0_value (arrV [.k 0])) {gb_is_name_0_value : List Value → List Value → List Value} (b_is_name_0_value : KBn g.K fd_is_name [(Str.ofString "value")] 0 [(Str.ofString "value")] gb_is_name_0_value (arrV [.k 0])) {gb_is_move_0_value : List Value → List Value → List Value} (b_is_move_0_value : KBn g.K fd_is_move [(Str.ofString "value")] 0 [(Str.ofString "value")] gb_is_move_0_value (arrV [.k 0])) : BodyOk g base 4 nn__law_right (Str.ofString "_law_right") (defScope (top 17)) f (defBody (top 17)) m__law_right := by
  intro cdv A outer s H E F hr hgd
  have hu := hr.units
  have tk := takes_cxF (g := g) (base := base) (N := nn__law_right) (qual := (Str.ofString "_law_right")) (scope := defScope (top 17)) (f := f) (cdv := cdv) (A := A) (outer := outer) (s := s) (H := H) (E := E)
  have hN := sc__law_right.nd
  exact (sSCons (wSet (i := 1) hN (sNE (wCall (ks := []) [.p 0] c__law_row.ok c__law_row.mg c__law_row.kp hr b__law_row_1 tk (wACons (wVar 0) sANil) sKNil (Many.cons Many.nil) Many.nil (dfl_nil rfl))))
    (sSCons (wSet (i := 2) hN (wRepr hsy n_repr (wPeek 1)))
    (sSCons (wFor [3] owns_cxF (wISeq (wVar 1)) (fun F => (wTgN hN)) (fun F => (sSCons (wSet (i := 4) hN (wLst (wACons (sZ (sNE (wCall (ks := []) [.p 0] c__law_is_number.ok c__law_is_number.mg c__law_is_number.kp hr b__law_is_number_1 tk (wACons (wVar 3) sANil) sKNil (Many.cons Many.nil) Many.nil (dfl_nil rfl)))) (wACons (sZ (wAndV (sZ (sNE (wCall (ks := []) [.p 0] c__law_is_number.ok c__law_is_number.mg c__law_is_number.kp hr b__law_is_number_1 tk (wACons (wVar 3) sANil) sKNil (Many.cons Many.nil) Many.nil (dfl_nil rfl)))) (wOneV (wCmp s_ge (wPeek 3) (sO wInt))))) (wACons (sZ (sNE (wCall (ks := []) [.p 0] c__law_is_name.ok c__law_is_name.mg c__law_is_name.kp hr b__law_is_name_1 tk (wACons (wVar 3) sANil) sKNil (Many.cons Many.nil) Many.nil (dfl_nil rfl)))) (wACons (sZ (sNE (wCall (ks := []) [.p 0] c__law_is_move.ok c__law_is_move.mg c__law_is_move.kp hr b__law_is_move_1 tk (wACons (wVar 3) sANil) sKNil (Many.cons Many.nil) Many.nil (dfl_nil rfl)))) sANil)))) (Many.cons (Many.cons (Many.cons (Many.cons Many.nil))))))
    (sSCons (sIf (wCmpT s_ne (sO (sZ (wRepr hsy n_repr (sO (sZ (wLst (wACons (sZ (sNE (wCall (ks := []) [.p 0] c_is_integer.ok c_is_integer.mg c_is_integer.kp hr b_is_integer_1 tk (wACons (wVar 3) sANil) sKNil (Many.cons Many.nil) Many.nil (dfl_nil rfl)))) (wACons (sZ (sNE (wCall (ks := []) [.p 0] c_is_count.ok c_is_count.mg c_is_count.kp hr b_is_count_1 tk (wACons (wVar 3) sANil) sKNil (Many.cons Many.nil) Many.nil (dfl_nil rfl)))) (wACons (sZ (sNE (wCall (ks := []) [.p 0] c_is_name.ok c_is_name.mg c_is_name.kp hr b_is_name_1 tk (wACons (wVar 3) sANil) sKNil (Many.cons Many.nil) Many.nil (dfl_nil rfl)))) (wACons (sZ (sNE (wCall (ks := []) [.p 0] c_is_move.ok c_is_move.mg c_is_move.kp hr b_is_move_1 tk (wACons (wVar 3) sANil) sKNil (Many.cons Many.nil) Many.nil (dfl_nil rfl)))) sANil)))) (Many.cons (Many.cons (Many.cons (Many.cons Many.nil)))))))))) (sO (sZ (wRepr hsy n_repr (wPeek 4))))) (sSCons (sRet (wE wBl))
    sSNil) sSNil)
    (sSCons (wSet (i := 5) hN (wLst (wACons (sZ (sNE (wCall0 (ks := [(Str.ofString "value")]) [.k 0] c_is_integer.ok c_is_integer.mg c_is_integer.kp hr b_is_integer_0_value tk (sKCons (wVar 3) sKNil) (Many.cons Many.nil) (dfl_nil rfl)))) (wACons (sZ (sNE (wCall0 (ks := [(Str.ofString "value")]) [.k 0] c_is_count.ok c_is_count.mg c_is_count.kp hr b_is_count_0_value tk (sKCons (wVar 3) sKNil) (Many.cons Many.nil) (dfl_nil rfl)))) (wACons (sZ (sNE (wCall0 (ks := [(Str.ofString "value")]) [.k 0] c_is_name.ok c_is_name.mg c_is_name.kp hr b_is_name_0_value tk (sKCons (wVar 3) sKNil) (Many.cons Many.nil) (dfl_nil rfl)))) (wACons (sZ (sNE (wCall0 (ks := [(Str.ofString "value")]) [.k 0] c_is_move.ok c_is_move.mg c_is_move.kp hr b_is_move_0_value tk (sKCons (wVar 3) sKNil) (Many.cons Many.nil) (dfl_nil rfl)))) sANil)))) (Many.cons (Many.cons (Many.cons (Many.cons Many.nil))))))
    (sSCons (sIf (wCmpT s_ne (sO (sZ (wRepr hsy n_repr (wPeek 5)))) (sO (sZ (wRepr hsy n_repr (wPeek 4))))) (sSCons (sRet (wE wBl))
    sSNil) sSNil)
    sSNil))))))
    (sSCons (sRet (wCmp s_eq (sO (sZ (wRepr hsy n_repr (wPeek 1)))) (wPeek 2)))
    sSNil))))
theorem sc__law_pot : FnScope nn__law_pot [(Str.ofString "_law_script"), (Str.ofString "_law_at")] (defScope (top 9)) := ⟨rfl, rfl, rfl, by decide +kernel, rfl, by decide +kernel, by decide +kernel⟩
theorem bd__law_pot (n_len : g.mg (Str.ofString "len") = none) (n_abs : g.mg (Str.ofString "abs") = none) (n_max : g.mg (Str.ofString "max") = none) (n_int : g.mg (Str.ofString "int") = none) : BodyOk g base 0 nn__law_pot (Str.ofString "_law_pot") (defScope (top 9)) f (defBody (top 9)) m__law_pot := by
  intro cdv A outer s H E F hr hgd
  have hu := hr.units
  have tk := takes_cxF (g := g) (base := base) (N := nn__law_pot) (qual := (Str.ofString "_law_pot")) (scope := defScope (top 9)) (f := f) (cdv := cdv) (A := A) (outer := outer) (s := s) (H := H) (E := E)
  have hN := sc__law_pot.nd
  exact (sSCons (wSet (i := 2) hN (wBin s_add (sO (sZ (wBin s_mul (sO wInt) (wPeek 1)))) (sO wInt)))
    (sSCons (sIf (wCmpT s_lt (wPeek 1) (sO (sZ (wB s_len n_len (wOCons (wPeek 0) sONil))))) (sSCons (wSet (i := 2) hN (wB s_abs n_abs (wOCons (sO (sZ (wIdx (wPeek 0) (wPeek 1)))) sONil)))
    sSNil) sSNil)
    (sSCons (sRet (wLst (wACons (sZ (wB s_max n_max (wOCons (sO wInt) (wOCons (sO (sZ (wBin s_sub (wPeek 2) (sO (sZ (wBin s_pow (sO wInt) (sO wInt))))))) sONil)))) (wACons (sZ (wBin s_add (sO (sZ (wBin s_mod (sO (sZ (wBin s_mul (sO (sZ (wTy s_int n_int (wOCons (sO (sZ (wBin s_add (sO (sZ (wBin s_mod (sO (sZ (wTy s_int n_int (wOCons (wPeek 2) sONil)))) (sO wInt)))) (sO wInt)))) sONil)))) (sO (sZ (wBin s_pow (sO (sZ (wBin s_add (sO (sZ (wBin s_mul (sO wInt) (wPeek 1)))) (sO wInt)))) (sO wInt))))))) (sO wInt)))) (sO wInt))) sANil)) (Many.cons (Many.cons Many.nil))))
    sSNil)))
theorem sc_law : FnScope nn_law [(Str.ofString "_law_script")] (defScope (top 18)) := ⟨rfl, rfl, rfl, by decide +kernel, rfl, by decide +kernel, by decide +kernel⟩
theorem bd_law (n_len : g.mg (Str.ofString "len") = none) (n_min : g.mg (Str.ofString "min") = none) (n_max : g.mg (Str.ofString "max") = none) (n_range : g.mg (Str.ofString "range") = none) (n_all : g.mg (Str.ofString "all") = none) {f__law_right : Addr} {fd__law_right : FuncData} (c__law_right : Fnc g base 5 (Str.ofString "_law_right") [(Str.ofString "_law_pot_here")] ph__law_right f__law_right fd__law_right) {f__law_pot : Addr} {fd__law_pot : FuncData} (c__law_pot : Fnc g base 1 (Str.ofString "_law_pot") [(Str.ofString "_law_script"), (Str.ofString "_law_at")] ph__law_pot f__law_pot fd__law_pot) {gb__law_right_1 : List Value → List Value → List Value} (b__law_right_1 : KBn g.K fd__law_right [(Str.ofString "_law_pot_here")] 1 [] gb__law_right_1 (arrV [.p 0])) {gb__law_pot_2 : List Value → List Value → List Value} (b__law_pot_2 : KBn g.K fd__law_pot [(Str.ofString "_law_script"), (Str.ofString "_law_at")] 2 [] gb__law_pot_2 (arrV [.p 0, .p 1])) : BodyOk g base 5 nn_law (Str.ofString "law") (defScope (top 18)) f (defBody (top 18)) m_law := by
  intro cdv A outer s H E F hr hgd
  have hu := hr.units
  have tk := takes_cxF (g := g) (base := base) (N := nn_law) (qual := (Str.ofString "law")) (scope := defScope (top 18)) (f := f) (cdv := cdv) (A := A) (outer := outer) (s := s) (H := H) (E := E)
  have hN := sc_law.nd
  exact (sSCons (sRet (wB s_all n_all (wOCons (sO (sZ (sLC (own := [(Str.ofString "_law_at", 1)]) rfl hN (wRng1 n_range (wACons (sZ (wB s_max n_max (wOCons (sO wInt) (wOCons (sO (sZ (wB s_min n_min (wOCons (sO (sZ (wB s_len n_len (wOCons (wPeek 0) sONil)))) (wOCons (sO wInt) sONil))))) sONil)))) sANil)) (blkOk_by rfl) (fun F s H C cl fp => (wTgN hN)) (fun F s H C cl fp => sTsNil) (fun F s H C cl fp => (sZ (sNE (wCall (ks := []) [.p 0] c__law_right.ok c__law_right.mg c__law_right.kp hr b__law_right_1 takes0 (wACons (sCell (wCall (ks := []) [.p 0, .p 1] c__law_pot.ok c__law_pot.mg c__law_pot.kp hr b__law_pot_2 takes0 (wACons (wVar 0) (wACons (wVar 1) sANil)) sKNil (Many.cons (Many.cons Many.nil)) Many.nil (dfl_nil rfl))) sANil) sKNil (Many.cons Many.nil) Many.nil (dfl_nil rfl))))) (fun _ => rfl)))) sONil)))
    sSNil)
end
def fa : List He.Fa := [.glo (Str.ofString "_law_draw"), .glo (Str.ofString "_law_pick"), .glo (Str.ofString "_law_word"), .glo (Str.ofString "_law_row"), .glo (Str.ofString "_law_is_number"), .glo (Str.ofString "_law_is_name"), .glo (Str.ofString "_law_is_move"), .glo (Str.ofString "is_integer"), .glo (Str.ofString "is_count"), .glo (Str.ofString "is_name"), .glo (Str.ofString "is_move"), .glo (Str.ofString "_law_right"), .glo (Str.ofString "_law_pot"), .glo (Str.ofString "law"), .free (Str.ofString "divmod"), .free (Str.ofString "int"), .free (Str.ofString "len"), .free (Str.ofString "range"), .free (Str.ofString "isinstance"), .free (Str.ofString "str"), .free (Str.ofString "all"), .free (Str.ofString "tuple"), .free (Str.ofString "bool"), .free (Str.ofString "repr"), .free (Str.ofString "abs"), .free (Str.ofString "max"), .free (Str.ofString "min"), .int (Str.ofString "MOST_NAME") 6, .str (Str.ofString "LETTERS") (Str.ofString "abcdefghijklmnopqrstuvwxyz"), .str (Str.ofString "DIGITS") (Str.ofString "0123456789")]
def dd__law_draw : He.DefD := ⟨((Str.ofString "_law_draw"), none), (Str.ofString "_law_draw"), (Str.ofString "_law_draw"), defArgs (top 10), defBody (top 10), defScope (top 10), [], []⟩
def dd__law_pick : He.DefD := ⟨((Str.ofString "_law_pick"), none), (Str.ofString "_law_pick"), (Str.ofString "_law_pick"), defArgs (top 11), defBody (top 11), defScope (top 11), [], []⟩
def dd__law_word : He.DefD := ⟨((Str.ofString "_law_word"), none), (Str.ofString "_law_word"), (Str.ofString "_law_word"), defArgs (top 12), defBody (top 12), defScope (top 12), [], []⟩
def dd__law_row : He.DefD := ⟨((Str.ofString "_law_row"), none), (Str.ofString "_law_row"), (Str.ofString "_law_row"), defArgs (top 16), defBody (top 16), defScope (top 16), [], []⟩
def dd__law_is_number : He.DefD := ⟨((Str.ofString "_law_is_number"), none), (Str.ofString "_law_is_number"), (Str.ofString "_law_is_number"), defArgs (top 15), defBody (top 15), defScope (top 15), [], []⟩
def dd__law_is_name : He.DefD := ⟨((Str.ofString "_law_is_name"), none), (Str.ofString "_law_is_name"), (Str.ofString "_law_is_name"), defArgs (top 13), defBody (top 13), defScope (top 13), [], []⟩
def dd__law_is_move : He.DefD := ⟨((Str.ofString "_law_is_move"), none), (Str.ofString "_law_is_move"), (Str.ofString "_law_is_move"), defArgs (top 14), defBody (top 14), defScope (top 14), [], []⟩
def dd_is_integer : He.DefD := ⟨((Str.ofString "is_integer"), none), (Str.ofString "is_integer"), (Str.ofString "is_integer"), defArgs (top 4), defBody (top 4), defScope (top 4), [], []⟩
def dd_is_count : He.DefD := ⟨((Str.ofString "is_count"), none), (Str.ofString "is_count"), (Str.ofString "is_count"), defArgs (top 5), defBody (top 5), defScope (top 5), [], []⟩
def dd_is_name : He.DefD := ⟨((Str.ofString "is_name"), none), (Str.ofString "is_name"), (Str.ofString "is_name"), defArgs (top 6), defBody (top 6), defScope (top 6), [], []⟩
def dd_is_move : He.DefD := ⟨((Str.ofString "is_move"), none), (Str.ofString "is_move"), (Str.ofString "is_move"), defArgs (top 7), defBody (top 7), defScope (top 7), [], []⟩
def dd__law_right : He.DefD := ⟨((Str.ofString "_law_right"), none), (Str.ofString "_law_right"), (Str.ofString "_law_right"), defArgs (top 17), defBody (top 17), defScope (top 17), [], []⟩
def dd__law_pot : He.DefD := ⟨((Str.ofString "_law_pot"), none), (Str.ofString "_law_pot"), (Str.ofString "_law_pot"), defArgs (top 9), defBody (top 9), defScope (top 9), [], []⟩
def dd_law : He.DefD := ⟨((Str.ofString "law"), none), (Str.ofString "law"), (Str.ofString "law"), defArgs (top 18), defBody (top 18), defScope (top 18), [], []⟩
def fn : List He.DefD := [dd__law_draw, dd__law_pick, dd__law_word, dd__law_row, dd__law_is_number, dd__law_is_name, dd__law_is_move, dd_is_integer, dd_is_count, dd_is_name, dd_is_move, dd__law_right, dd__law_pot, dd_law]
theorem facts {P : Program} {w : World} {K : PySem.W.Frag} {h : Heap} {mg : Str → Option Value} (ca : Nat → Addr) (X : K.In h) (G : h.Ns mainGlobals mg) (c : He.SaysD fa fn K) (hsy : SysIn K) :
    ∃ (f : Addr) (fd : FuncData), (∀ base : Heap, Fnc ⟨P, w, K, mg, ca⟩ base 6 (Str.ofString "law") [(Str.ofString "_law_script")] ph_law f fd) ∧ ∀ (s : Shared) (v : Value), BindsTo s fd ⟨[v], []⟩ [((Str.ofString "_law_script"), v)] := by
  have mg__law_draw := He.glo_ok X G (c.fact 0 (f := .glo (Str.ofString "_law_draw")) rfl)
  have mg__law_pick := He.glo_ok X G (c.fact 1 (f := .glo (Str.ofString "_law_pick")) rfl)
  have mg__law_word := He.glo_ok X G (c.fact 2 (f := .glo (Str.ofString "_law_word")) rfl)
  have mg__law_row := He.glo_ok X G (c.fact 3 (f := .glo (Str.ofString "_law_row")) rfl)
  have mg__law_is_number := He.glo_ok X G (c.fact 4 (f := .glo (Str.ofString "_law_is_number")) rfl)
  have mg__law_is_name := He.glo_ok X G (c.fact 5 (f := .glo (Str.ofString "_law_is_name")) rfl)
  have mg__law_is_move := He.glo_ok X G (c.fact 6 (f := .glo (Str.ofString "_law_is_move")) rfl)
  have mg_is_integer := He.glo_ok X G (c.fact 7 (f := .glo (Str.ofString "is_integer")) rfl)
  have mg_is_count := He.glo_ok X G (c.fact 8 (f := .glo (Str.ofString "is_count")) rfl)
  have mg_is_name := He.glo_ok X G (c.fact 9 (f := .glo (Str.ofString "is_name")) rfl)
  have mg_is_move := He.glo_ok X G (c.fact 10 (f := .glo (Str.ofString "is_move")) rfl)
  have mg__law_right := He.glo_ok X G (c.fact 11 (f := .glo (Str.ofString "_law_right")) rfl)
  have mg__law_pot := He.glo_ok X G (c.fact 12 (f := .glo (Str.ofString "_law_pot")) rfl)
  have mg_law := He.glo_ok X G (c.fact 13 (f := .glo (Str.ofString "law")) rfl)
  have n_divmod := He.free_ok X G (c.fact 14 (f := .free (Str.ofString "divmod")) rfl)
  have n_int := He.free_ok X G (c.fact 15 (f := .free (Str.ofString "int")) rfl)
  have n_len := He.free_ok X G (c.fact 16 (f := .free (Str.ofString "len")) rfl)
  have n_range := He.free_ok X G (c.fact 17 (f := .free (Str.ofString "range")) rfl)
  have n_isinstance := He.free_ok X G (c.fact 18 (f := .free (Str.ofString "isinstance")) rfl)
  have n_str := He.free_ok X G (c.fact 19 (f := .free (Str.ofString "str")) rfl)
  have n_all := He.free_ok X G (c.fact 20 (f := .free (Str.ofString "all")) rfl)
  have n_tuple := He.free_ok X G (c.fact 21 (f := .free (Str.ofString "tuple")) rfl)
  have n_bool := He.free_ok X G (c.fact 22 (f := .free (Str.ofString "bool")) rfl)
  have n_repr := He.free_ok X G (c.fact 23 (f := .free (Str.ofString "repr")) rfl)
  have n_abs := He.free_ok X G (c.fact 24 (f := .free (Str.ofString "abs")) rfl)
  have n_max := He.free_ok X G (c.fact 25 (f := .free (Str.ofString "max")) rfl)
  have n_min := He.free_ok X G (c.fact 26 (f := .free (Str.ofString "min")) rfl)
  have i_MOST_NAME := He.int_ok X G (c.fact 27 (f := .int (Str.ofString "MOST_NAME") 6) rfl)
  have s_LETTERS := He.str_ok X G (c.fact 28 (f := .str (Str.ofString "LETTERS") (Str.ofString "abcdefghijklmnopqrstuvwxyz")) rfl)
  have s_DIGITS := He.str_ok X G (c.fact 29 (f := .str (Str.ofString "DIGITS") (Str.ofString "0123456789")) rfl)
  obtain ⟨fd__law_draw, F__law_draw⟩ := c.def_ 0 (d := dd__law_draw) rfl
  have c__law_draw : ∀ base, Fnc ⟨P, w, K, mg, ca⟩ base 1 (Str.ofString "_law_draw") [(Str.ofString "_law_pot_here"), (Str.ofString "_law_size")] ph__law_draw _ fd__law_draw := fun base => fn_ok F__law_draw sc__law_draw mg__law_draw (bd__law_draw n_divmod n_int)
  obtain ⟨fd__law_pick, F__law_pick⟩ := c.def_ 1 (d := dd__law_pick) rfl
  obtain ⟨gb__law_draw_2, b__law_draw_2⟩ := kb0 (ps := [(Str.ofString "_law_pot_here"), (Str.ofString "_law_size")]) F__law_draw 2 [] [.p 0, .p 1] trivial (fun _ _ _ _ _ _ us ws hl hw => match us, hl, ws, hw with | [_, _], _, [], _ => rfl)
  have c__law_pick : ∀ base, Fnc ⟨P, w, K, mg, ca⟩ base 2 (Str.ofString "_law_pick") [(Str.ofString "_law_pot_here"), (Str.ofString "_law_row_here")] ph__law_pick _ fd__law_pick := fun base => fn_ok F__law_pick sc__law_pick mg__law_pick (bd__law_pick n_len (c__law_draw base) b__law_draw_2)
  obtain ⟨fd__law_word, F__law_word⟩ := c.def_ 2 (d := dd__law_word) rfl
  obtain ⟨gb__law_pick_2, b__law_pick_2⟩ := kb0 (ps := [(Str.ofString "_law_pot_here"), (Str.ofString "_law_row_here")]) F__law_pick 2 [] [.p 0, .p 1] trivial (fun _ _ _ _ _ _ us ws hl hw => match us, hl, ws, hw with | [_, _], _, [], _ => rfl)
  have c__law_word : ∀ base, Fnc ⟨P, w, K, mg, ca⟩ base 3 (Str.ofString "_law_word") [(Str.ofString "_law_pot_here")] ph__law_word _ fd__law_word := fun base => fn_ok F__law_word sc__law_word mg__law_word (bd__law_word n_int n_range (c__law_draw base) (c__law_pick base) b__law_draw_2 b__law_pick_2)
  obtain ⟨fd__law_row, F__law_row⟩ := c.def_ 3 (d := dd__law_row) rfl
  obtain ⟨gb__law_word_1, b__law_word_1⟩ := kb0 (ps := [(Str.ofString "_law_pot_here")]) F__law_word 1 [] [.p 0] trivial (fun _ _ _ _ _ _ us ws hl hw => match us, hl, ws, hw with | [_], _, [], _ => rfl)
  have c__law_row : ∀ base, Fnc ⟨P, w, K, mg, ca⟩ base 4 (Str.ofString "_law_row") [(Str.ofString "_law_pot_here")] ph__law_row _ fd__law_row := fun base => fn_ok F__law_row sc__law_row mg__law_row (bd__law_row (c__law_word base) (c__law_draw base) b__law_word_1 b__law_draw_2)
  obtain ⟨fd__law_is_number, F__law_is_number⟩ := c.def_ 4 (d := dd__law_is_number) rfl
  have c__law_is_number : ∀ base, Fnc ⟨P, w, K, mg, ca⟩ base 1 (Str.ofString "_law_is_number") [(Str.ofString "_law_one")] ph__law_is_number _ fd__law_is_number := fun base => fn_ok F__law_is_number sc__law_is_number mg__law_is_number (bd__law_is_number n_isinstance n_int)
  obtain ⟨fd__law_is_name, F__law_is_name⟩ := c.def_ 5 (d := dd__law_is_name) rfl
  have c__law_is_name : ∀ base, Fnc ⟨P, w, K, mg, ca⟩ base 1 (Str.ofString "_law_is_name") [(Str.ofString "_law_one")] ph__law_is_name _ fd__law_is_name := fun base => fn_ok F__law_is_name sc__law_is_name mg__law_is_name (bd__law_is_name n_isinstance n_str n_len n_all)
  obtain ⟨fd__law_is_move, F__law_is_move⟩ := c.def_ 6 (d := dd__law_is_move) rfl
  obtain ⟨gb__law_is_name_1, b__law_is_name_1⟩ := kb0 (ps := [(Str.ofString "_law_one")]) F__law_is_name 1 [] [.p 0] trivial (fun _ _ _ _ _ _ us ws hl hw => match us, hl, ws, hw with | [_], _, [], _ => rfl)
  have c__law_is_move : ∀ base, Fnc ⟨P, w, K, mg, ca⟩ base 2 (Str.ofString "_law_is_move") [(Str.ofString "_law_one")] ph__law_is_move _ fd__law_is_move := fun base => fn_ok F__law_is_move sc__law_is_move mg__law_is_move (bd__law_is_move n_isinstance n_tuple n_len n_all (c__law_is_name base) b__law_is_name_1)
  obtain ⟨fd_is_integer, F_is_integer⟩ := c.def_ 7 (d := dd_is_integer) rfl
  have c_is_integer : ∀ base, Fnc ⟨P, w, K, mg, ca⟩ base 1 (Str.ofString "is_integer") [(Str.ofString "value")] ph_is_integer _ fd_is_integer := fun base => fn_ok F_is_integer sc_is_integer mg_is_integer (bd_is_integer n_isinstance n_int n_bool)
  obtain ⟨fd_is_count, F_is_count⟩ := c.def_ 8 (d := dd_is_count) rfl
  obtain ⟨gb_is_integer_1, b_is_integer_1⟩ := kb0 (ps := [(Str.ofString "value")]) F_is_integer 1 [] [.p 0] trivial (fun _ _ _ _ _ _ us ws hl hw => match us, hl, ws, hw with | [_], _, [], _ => rfl)
  have c_is_count : ∀ base, Fnc ⟨P, w, K, mg, ca⟩ base 2 (Str.ofString "is_count") [(Str.ofString "value")] ph_is_count _ fd_is_count := fun base => fn_ok F_is_count sc_is_count mg_is_count (bd_is_count (c_is_integer base) b_is_integer_1)
  obtain ⟨fd_is_name, F_is_name⟩ := c.def_ 9 (d := dd_is_name) rfl
  have c_is_name : ∀ base, Fnc ⟨P, w, K, mg, ca⟩ base 1 (Str.ofString "is_name") [(Str.ofString "value")] ph_is_name _ fd_is_name := fun base => fn_ok F_is_name sc_is_name mg_is_name (bd_is_name n_isinstance n_str n_len n_all i_MOST_NAME s_LETTERS s_DIGITS)
  obtain ⟨fd_is_move, F_is_move⟩ := c.def_ 10 (d := dd_is_move) rfl
  obtain ⟨gb_is_name_1, b_is_name_1⟩ := kb0 (ps := [(Str.ofString "value")]) F_is_name 1 [] [.p 0] trivial (fun _ _ _ _ _ _ us ws hl hw => match us, hl, ws, hw with | [_], _, [], _ => rfl)
  have c_is_move : ∀ base, Fnc ⟨P, w, K, mg, ca⟩ base 2 (Str.ofString "is_move") [(Str.ofString "value")] ph_is_move _ fd_is_move := fun base => fn_ok F_is_move sc_is_move mg_is_move (bd_is_move n_isinstance n_tuple n_len n_all (c_is_name base) b_is_name_1)
  obtain ⟨fd__law_right, F__law_right⟩ := c.def_ 11 (d := dd__law_right) rfl
  obtain ⟨gb__law_row_1, b__law_row_1⟩ := kb0 (ps := [(Str.ofString "_law_pot_here")]) F__law_row 1 [] [.p 0] trivial (fun _ _ _ _ _ _ us ws hl hw => match us, hl, ws, hw with | [_], _, [], _ => rfl)
  obtain ⟨gb__law_is_number_1, b__law_is_number_1⟩ := kb0 (ps := [(Str.ofString "_law_one")]) F__law_is_number 1 [] [.p 0] trivial (fun _ _ _ _ _ _ us ws hl hw => match us, hl, ws, hw with | [_], _, [], _ => rfl)
  obtain ⟨gb__law_is_move_1, b__law_is_move_1⟩ := kb0 (ps := [(Str.ofString "_law_one")]) F__law_is_move 1 [] [.p 0] trivial (fun _ _ _ _ _ _ us ws hl hw => match us, hl, ws, hw with | [_], _, [], _ => rfl)
  obtain ⟨gb_is_count_1, b_is_count_1⟩ := kb0 (ps := [(Str.ofString "value")]) F_is_count 1 [] [.p 0] trivial (fun _ _ _ _ _ _ us ws hl hw => match us, hl, ws, hw with | [_], _, [], _ => rfl)
  obtain ⟨gb_is_move_1, b_is_move_1⟩ := kb0 (ps := [(Str.ofString "value")]) F_is_move 1 [] [.p 0] trivial (fun _ _ _ _ _ _ us ws hl hw => match us, hl, ws, hw with | [_], _, [], _ => rfl)
  obtain ⟨gb_is_integer_0_value, b_is_integer_0_value⟩ := kb0 (ps := [(Str.ofString "value")]) F_is_integer 0 [(Str.ofString "value")] [.k 0] trivial (fun _ _ _ _ _ _ us ws hl hw => match us, hl, ws, hw with | [], _, [_], _ => rfl)
  obtain ⟨gb_is_count_0_value, b_is_count_0_value⟩ := kb0 (ps := [(Str.ofString "value")]) F_is_count 0 [(Str.ofString "value")] [.k 0] trivial (fun _ _ _ _ _ _ us ws hl hw => match us, hl, ws, hw with | [], _, [_], _ => rfl)
  obtain ⟨gb_is_name_0_value, b_is_name_0_value⟩ := kb0 (ps := [(Str.ofString "value")]) F_is_name 0 [(Str.ofString "value")] [.k 0] trivial (fun _ _ _ _ _ _ us ws hl hw => match us, hl, ws, hw with | [], _, [_], _ => rfl)
  obtain ⟨gb_is_move_0_value, b_is_move_0_value⟩ := kb0 (ps := [(Str.ofString "value")]) F_is_move 0 [(Str.ofString "value")] [.k 0] trivial (fun _ _ _ _ _ _ us ws hl hw => match us, hl, ws, hw with | [], _, [_], _ => rfl)
  have c__law_right : ∀ base, Fnc ⟨P, w, K, mg, ca⟩ base 5 (Str.ofString "_law_right") [(Str.ofString "_law_pot_here")] ph__law_right _ fd__law_right := fun base => fn_ok F__law_right sc__law_right mg__law_right (bd__law_right hsy n_repr (c__law_row base) (c__law_is_number base) (c__law_is_name base) (c__law_is_move base) (c_is_integer base) (c_is_count base) (c_is_name base) (c_is_move base) b__law_row_1 b__law_is_number_1 b__law_is_name_1 b__law_is_move_1 b_is_integer_1 b_is_count_1 b_is_name_1 b_is_move_1 b_is_integer_0_value b_is_count_0_value b_is_name_0_value b_is_move_0_value)
  obtain ⟨fd__law_pot, F__law_pot⟩ := c.def_ 12 (d := dd__law_pot) rfl
  have c__law_pot : ∀ base, Fnc ⟨P, w, K, mg, ca⟩ base 1 (Str.ofString "_law_pot") [(Str.ofString "_law_script"), (Str.ofString "_law_at")] ph__law_pot _ fd__law_pot := fun base => fn_ok F__law_pot sc__law_pot mg__law_pot (bd__law_pot n_len n_abs n_max n_int)
  obtain ⟨fd_law, F_law⟩ := c.def_ 13 (d := dd_law) rfl
  obtain ⟨gb__law_right_1, b__law_right_1⟩ := kb0 (ps := [(Str.ofString "_law_pot_here")]) F__law_right 1 [] [.p 0] trivial (fun _ _ _ _ _ _ us ws hl hw => match us, hl, ws, hw with | [_], _, [], _ => rfl)
  obtain ⟨gb__law_pot_2, b__law_pot_2⟩ := kb0 (ps := [(Str.ofString "_law_script"), (Str.ofString "_law_at")]) F__law_pot 2 [] [.p 0, .p 1] trivial (fun _ _ _ _ _ _ us ws hl hw => match us, hl, ws, hw with | [_, _], _, [], _ => rfl)
  have c_law : ∀ base, Fnc ⟨P, w, K, mg, ca⟩ base 6 (Str.ofString "law") [(Str.ofString "_law_script")] ph_law _ fd_law := fun base => fn_ok F_law sc_law mg_law (bd_law n_len n_min n_max n_range n_all (c__law_right base) (c__law_pot base) b__law_right_1 b__law_pot_2)
  exact ⟨_, fd_law, c_law, fun s v => FunD.bindsA (ps := [(Str.ofString "_law_script")]) F_law (fun _ _ _ _ _ _ us hl => match us, hl with | [_], _ => rfl) s [v] rfl⟩
def loose0 : List Str := ["DIGITS", "LETTERS", "MOST_NAME", "is_integer", "is_count", "is_name", "is_move", "_law_pot", "_law_draw", "_law_pick", "_law_word", "_law_is_name", "_law_is_move", "_law_is_number", "_law_row", "_law_right"]
def loose : List Str := loose0
abbrev R : PySem.W.OpenRow := PySem.W.OpenLaw.row PySem.Challenge.rw_neverlost_k10_names_and_moves
abbrev hk : PySem.W.Hook := hookS 4 fa fn
def ob (s : PySem.W.SharedT) : He.AlD := obsSG 4 fa fn (HandSHeadRun.getT s)
theorem ob_eq (s : PySem.W.SharedT) : ob s = hk.obs s.abs := obsSG_eq (HandSHeadRun.getT_eq s)
theorem run (w : World) : HandSHeadRun.RunEq R (PySem.W.view R.prog [18]) hk ob 6000 loose w := by
  intro os
  kernel_rfl
end K10
namespace K10
open PySem PySem.Spec L2 EL
/-! ### the pot -/
def Pot (cs : Cells) (n : Nat) : Prop := ∃ a b : Int, cs[n]? = some (.lst [.int a, .int b]) ∧ 0 ≤ a ∧ 0 ≤ b ∧ b < 2147483587
theorem pot_lt {cs : Cells} {n : Nat} {x : D} (h : cs[n]? = some x) : n < cs.length := (List.getElem?_eq_some_iff.mp h).1
theorem mf2 {i j : Int} (h1 : 0 ≤ i) (h2 : i < 2 ^ 64) (h3 : 0 ≤ j) (h4 : j < 2 ^ 64) : mulFit i j = true := by
  have a : i.natAbs.log2 < 64 := PySem.Flt.log2_lt_of (by decide) (by omega)
  have b : j.natAbs.log2 < 64 := PySem.Flt.log2_lt_of (by decide) (by omega)
  unfold mulFit
  exact decide_eq_true (by omega)
theorem df {j : Int} (h1 : 0 < j) (h2 : j < 2 ^ 200) : divFit j = true := by
  have a : j.natAbs.log2 < 200 := PySem.Flt.log2_lt_of (by decide) (by omega)
  unfold divFit
  exact decide_eq_true ⟨h1, by omega⟩
theorem r_draw {cs : Cells} {n : Nat} {s : Int} (h : Pot cs n) (h0 : 0 < s) (h1 : s < 2 ^ 200) : ∃ d cs', ph__law_draw [.cell n, .int s] cs = .ok (.int d) false cs' ∧ 0 ≤ d ∧ d < s ∧ Pot cs' n := by
  obtain ⟨a, b, hc, ha, hb, hb2⟩ := h
  have hl := pot_lt hc
  have hdf := df h0 h1
  by_cases hp : 0 < a
  · refine ⟨a % s, cs.set n (.lst [.int (a / s), .int b]), ?_, Int.emod_nonneg _ (by omega), Int.emod_lt_of_pos _ h0, a / s, b, by simp [hl], Int.ediv_nonneg ha (by omega), hb, hb2⟩
    simp [ph__law_draw, m__law_draw, hc, atI, ixN, hp, hdf]
  · have m1 : mulFit b 48271 = true := mf2 hb (by omega) (by omega) (by omega)
    have hb' : 0 ≤ (b * 48271 + 12253).fmod 2147483587 := Int.fmod_nonneg_of_pos _ (by omega)
    have hb2' : (b * 48271 + 12253).fmod 2147483587 < 2147483587 := Int.fmod_lt_of_pos _ (by omega)
    have m2 : mulFit ((b * 48271 + 12253).fmod 2147483587) ((b * 48271 + 12253).fmod 2147483587) = true := mf2 hb' (by omega) hb' (by omega)
    have hs0 : s ≠ 0 := by omega
    refine ⟨(((b * 48271 + 12253).fmod 2147483587 * (b * 48271 + 12253).fmod 2147483587).fmod 2147483549 / 23).fmod s, cs.set n (.lst [.int a, .int ((b * 48271 + 12253).fmod 2147483587)]), ?_, Int.fmod_nonneg_of_pos _ h0, Int.fmod_lt_of_pos _ h0, a, _, by simp [hl], ha, hb', hb2'⟩
    have hdv : divFit 23 = true := by decide
    have hs : ∀ x, (cs.set n x)[n]? = some x := fun x => List.getElem?_set_self hl
    simp [ph__law_draw, m__law_draw, hc, hs, atI, ixN, hp, hdf, m1, m2, hs0, hdv]
theorem powfit {i j : Int} (h1 : 0 ≤ j) (h2 : j ≤ 1000000) (h3 : 0 ≤ i) (h4 : i < 2 ^ 63) : powFit i j = true := by
  unfold powFit
  exact decide_eq_true ⟨h1, h2, by omega⟩
theorem r_pot (ns : List Int) (k : Nat) (hk : k ≤ 63) (cs : Cells) : ∃ a b : Int, ph__law_pot [.lst (ns.map D.int), .int k] cs = .ok (.lst [.int a, .int b]) true cs ∧ 0 ≤ a ∧ 0 ≤ b ∧ b < 2147483587 := by
  have m1 : mulFit 29 (k : Int) = true := mf2 (by omega) (by omega) (by omega) (by omega)
  have m2 : mulFit 2 (k : Int) = true := mf2 (by omega) (by omega) (by omega) (by omega)
  have p1 : powFit 10 18 = true := by decide
  have p2 : powFit (2 * (k : Int) + 9) 3 = true := powfit (by omega) (by omega) (by omega) (by omega)
  have main : ∀ c : Int, 0 ≤ c → ∃ a b : Int, a = (if 0 < c - 10 ^ 18 then c - 10 ^ 18 else 0) ∧ b = ((c.fmod 2147483549 + 23) * (2 * (k : Int) + 9) ^ 3).fmod 2147483477 + 1 ∧ mulFit (c.fmod 2147483549 + 23) ((2 * (k : Int) + 9) ^ 3) = true ∧ 0 ≤ a ∧ 0 ≤ b ∧ b < 2147483587 := fun c hc => by
    have h1 : 0 ≤ c.fmod 2147483549 := Int.fmod_nonneg_of_pos _ (by omega)
    have h2 : c.fmod 2147483549 < 2147483549 := Int.fmod_lt_of_pos _ (by omega)
    have h3 : 0 ≤ (2 * (k : Int) + 9) ^ 3 := Int.pow_nonneg (by omega)
    have h4 : (2 * (k : Int) + 9) ^ 3 ≤ 135 ^ 3 := by
      have h5 : (2 * (k : Int) + 9) ≤ 135 := by omega
      have e : ∀ x : Int, x ^ 3 = x * x * x := fun x => by rw [Int.pow_succ, Int.pow_succ, Int.pow_succ, Int.pow_zero, Int.one_mul]
      rw [e, e]
      have h6 : (2 * (k : Int) + 9) * (2 * (k : Int) + 9) ≤ 135 * 135 := Int.mul_le_mul h5 h5 (by omega) (by omega)
      exact Int.mul_le_mul h6 h5 (by omega) (by omega)
    have h7 : 0 ≤ ((c.fmod 2147483549 + 23) * (2 * (k : Int) + 9) ^ 3).fmod 2147483477 := Int.fmod_nonneg_of_pos _ (by omega)
    have h8 : ((c.fmod 2147483549 + 23) * (2 * (k : Int) + 9) ^ 3).fmod 2147483477 < 2147483477 := Int.fmod_lt_of_pos _ (by omega)
    refine ⟨_, _, rfl, rfl, mf2 (by omega) (by omega) h3 (by omega), ?_, by omega, by omega⟩
    split <;> omega
  by_cases hlt : k < ns.length
  · have e1 : (ns.map D.int)[k]? = some (.int ns[k]) := by simp [hlt]
    have hlt' : (k : Int) < (ns.length : Int) := by omega
    obtain ⟨a, b, ha, hb, hm, h1, h2, h3⟩ := main (if ns[k] < 0 then -ns[k] else ns[k]) (by split <;> omega)
    refine ⟨a, b, ?_, h1, h2, h3⟩
    rw [ha, hb]
    simp [ph__law_pot, m__law_pot, m1, m2, p1, p2, hlt, hlt', atI, ixN, hm]
  · have hlt' : ¬ (k : Int) < (ns.length : Int) := by omega
    obtain ⟨a, b, ha, hb, hm, h1, h2, h3⟩ := main (29 * k + 19) (by omega)
    refine ⟨a, b, ?_, h1, h2, h3⟩
    rw [ha, hb]
    simp [ph__law_pot, m__law_pot, m1, m2, p1, p2, hlt', atI, ixN, hm]
end K10
namespace K10
open PySem PySem.Spec L2 EL
theorem join_ones : ∀ l : List Nat, (Txt.join (Str.ofString "") (l.map fun c => ⟨#[c]⟩)).cps.toList = l := fun l => by
  unfold Txt.join
  rw [PySem.StrLaws.glued_eq_join]
  induction l with
  | nil => rfl
  | cons c l ih =>
    cases l with
    | nil => rfl
    | cons c2 l =>
      rw [List.map_cons, List.map_cons]
      rw [List.map_cons] at ih
      show ((⟨#[c]⟩ : Str).cps ++ (Str.ofString "").cps ++ (Str.join (Str.ofString "") (⟨#[c2]⟩ :: l.map fun c => ⟨#[c]⟩)).cps).toList = _
      rw [Array.toList_append, ih]
      rfl
theorem r_pick {cs : Cells} {n : Nat} {z : Str} (h : Pot cs n) (h0 : 0 < z.length) (h1 : z.length < 1000) : ∃ c cs', ph__law_pick [.cell n, .str z] cs = .ok (.str ⟨#[c]⟩) false cs' ∧ c ∈ z.cps.toList ∧ Pot cs' n := by
  obtain ⟨d, cs', e, hd0, hd1, hp⟩ := r_draw (s := (z.length : Int)) h (by omega) (by omega)
  have hlt : d.toNat < z.cps.toList.length := by rw [Array.length_toList]; show d.toNat < z.length; omega
  have hz : z.length ≤ sizeLine := by
    have e : sizeLine = 16777216 := rfl
    omega
  have hl : (z.cps.toList.length : Int) = (z.length : Int) := by rw [Array.length_toList]; rfl
  refine ⟨z.cps.toList[d.toNat], cs', ?_, List.getElem_mem hlt, hp⟩
  have ha : EL.opIdx (.str z) (.int d) = some (.str ⟨#[z.cps.toList[d.toNat]]⟩, false) := by
    show (if z.length ≤ sizeLine then (L2.atI z.cps.toList d).map (fun c => (D.str ⟨#[c]⟩, false)) else none) = _
    rw [if_pos hz]
    unfold L2.atI ixN
    rw [if_pos hd0, if_pos (by rw [hl]; exact hd1)]
    show (z.cps.toList[d.toNat]?).map _ = _
    rw [List.getElem?_eq_getElem hlt]
    rfl
  simp only [ph__law_pick, m__law_pick, runDef, ap_seq, ap_ret, ap_bind, ap_op2, ap_peek, startE, ap_Z, ap_call, ap_cons, ap_var, ap_opN, ap_cs, dr2, drN, drL, dr, fLen, List.map_cons, List.map_nil, List.length_cons, List.length_nil, ap_pure, ap_phi, arrD]
  simp [hz, e, ha, -EL.opIdx]
theorem toks_mem {ys : List D} (h : ∀ y ∈ ys, ∃ c : Nat, y = .str ⟨#[c]⟩ ∧ c < 200) : ∃ l : List Nat, ys = l.map (fun c => D.str ⟨#[c]⟩) ∧ l.length = ys.length ∧ ∀ c ∈ l, c < 200 := list_of h
theorem strsD_ones : ∀ l : List Nat, strsD (l.map fun c => D.str ⟨#[c]⟩) = some (l.map fun c => ⟨#[c]⟩)
  | [] => rfl
  | c :: l => by
    show (strsD (l.map fun c => D.str ⟨#[c]⟩)).map (fun xs => (⟨#[c]⟩ : Str) :: xs) = _
    rw [strsD_ones l]
    rfl
theorem ones_len : ∀ l : List Nat, ((l.map fun c => (⟨#[c]⟩ : Str)).map (·.length)).sum = l.length
  | [] => rfl
  | c :: l => by
    rw [List.map_cons, List.map_cons, List.sum_cons, ones_len l, List.length_cons]
    show 1 + l.length = _
    omega
@[simp] theorem ap_join {mo me : M D} {e : EL.Env} {c : Cells} : mJoin mo me e c = M.bind mo (joinK me) e c := rfl
@[simp] theorem ap_joinK {me : M D} {a : Str} {e : EL.Env} {c : Cells} : joinK me (.str a) e c = M.bind me (fun y => mCs fun cs => (dr cs y).bind fun y => opJoin (.str a) y) e c := rfl
theorem r_word {cs : Cells} {n : Nat} (h : Pot cs n) : ∃ x cs', ph__law_word [.cell n] cs = .ok (.str x) false cs' ∧ x.length ≤ 8 ∧ (∀ c ∈ x.cps.toList, c < 200) ∧ Pot cs' n := by
  obtain ⟨d, cs1, e1, d0, d1, h1⟩ := r_draw (s := 2) h (by omega) (by omega)
  obtain ⟨b, cs2, e2, b0, b1, h2⟩ := r_draw (s := 4) h1 (by omega) (by omega)
  obtain ⟨k, cs3, e3, k0, k1, h3⟩ := r_draw (s := 9) h2 (by omega) (by omega)
  have sg : ∃ z : Str, 0 < z.length ∧ z.length < 1000 ∧ (∀ c ∈ z.cps.toList, c < 200) ∧ True ∧ (mSet 1 (mOp2 (dr2 opAdd) (mZ (mOp2 (dr2 opAdd) (M.pure (.str (Str.ofString "abmz019"))) (mZ (mOp2 (dr2 opMul) (M.pure (.str (Str.ofString "abcxyz789"))) (mZ (mCall ph__law_draw [.p 0, .p 1] (mCons (mVar 0) (mCons (M.pure (.int 2)) (M.pure []))) (M.pure []))))))) (mZ (mOp2 (dr2 opMul) (M.pure (.str (Str.ofString "A_. -Z~"))) (mZ (mOpN (drN fInt) (mCons (mZ (mOp2 (dr2 opEq) (mZ (mCall ph__law_draw [.p 0, .p 1] (mCons (mVar 0) (mCons (M.pure (.int 4)) (M.pure []))) (M.pure []))) (M.pure (.int 0)))) (M.pure [])))))))) [.fz (.cell n), .no, .no] cs = .ok .nx [.fz (.cell n), .fz (.str z), .no] cs2 := by
    have hd : d = 0 ∨ d = 1 := by omega
    by_cases hb : b = 0
    · rcases hd with rfl | rfl
      · have f1 : mulSFit (Str.ofString "abcxyz789") 0 = true := by decide
        have f2 : mulSFit (Str.ofString "A_. -Z~") 1 = true := by decide
        have f3 : (Str.ofString "abmz019").length + (Txt.mul (Str.ofString "abcxyz789") 0).length ≤ sizeLine := by decide
        have f4 : ((Str.ofString "abmz019") ++ Txt.mul (Str.ofString "abcxyz789") 0).length + (Txt.mul (Str.ofString "A_. -Z~") 1).length ≤ sizeLine := by decide
        refine ⟨(Str.ofString "abmz019") ++ Txt.mul (Str.ofString "abcxyz789") 0 ++ Txt.mul (Str.ofString "A_. -Z~") 1, by decide, by decide, by decide, trivial, ?_⟩
        simp [e1, e2, eqD, hb, f1, f2, f3, f4]
      · have f1 : mulSFit (Str.ofString "abcxyz789") 1 = true := by decide
        have f2 : mulSFit (Str.ofString "A_. -Z~") 1 = true := by decide
        have f3 : (Str.ofString "abmz019").length + (Txt.mul (Str.ofString "abcxyz789") 1).length ≤ sizeLine := by decide
        have f4 : ((Str.ofString "abmz019") ++ Txt.mul (Str.ofString "abcxyz789") 1).length + (Txt.mul (Str.ofString "A_. -Z~") 1).length ≤ sizeLine := by decide
        refine ⟨(Str.ofString "abmz019") ++ Txt.mul (Str.ofString "abcxyz789") 1 ++ Txt.mul (Str.ofString "A_. -Z~") 1, by decide, by decide, by decide, trivial, ?_⟩
        simp [e1, e2, eqD, hb, f1, f2, f3, f4]
    · rcases hd with rfl | rfl
      · have f1 : mulSFit (Str.ofString "abcxyz789") 0 = true := by decide
        have f2 : mulSFit (Str.ofString "A_. -Z~") 0 = true := by decide
        have f3 : (Str.ofString "abmz019").length + (Txt.mul (Str.ofString "abcxyz789") 0).length ≤ sizeLine := by decide
        have f4 : ((Str.ofString "abmz019") ++ Txt.mul (Str.ofString "abcxyz789") 0).length + (Txt.mul (Str.ofString "A_. -Z~") 0).length ≤ sizeLine := by decide
        refine ⟨(Str.ofString "abmz019") ++ Txt.mul (Str.ofString "abcxyz789") 0 ++ Txt.mul (Str.ofString "A_. -Z~") 0, by decide, by decide, by decide, trivial, ?_⟩
        simp [e1, e2, eqD, hb, f1, f2, f3, f4]
      · have f1 : mulSFit (Str.ofString "abcxyz789") 1 = true := by decide
        have f2 : mulSFit (Str.ofString "A_. -Z~") 0 = true := by decide
        have f3 : (Str.ofString "abmz019").length + (Txt.mul (Str.ofString "abcxyz789") 1).length ≤ sizeLine := by decide
        have f4 : ((Str.ofString "abmz019") ++ Txt.mul (Str.ofString "abcxyz789") 1).length + (Txt.mul (Str.ofString "A_. -Z~") 0).length ≤ sizeLine := by decide
        refine ⟨(Str.ofString "abmz019") ++ Txt.mul (Str.ofString "abcxyz789") 1 ++ Txt.mul (Str.ofString "A_. -Z~") 0, by decide, by decide, by decide, trivial, ?_⟩
        simp [e1, e2, eqD, hb, f1, f2, f3, f4]
  obtain ⟨z, z0, z1, z2, _, ez⟩ := sg
  obtain ⟨ys, cs4, ec, hl, hP, h4⟩ := compM_inv (turn := turnM [2] (.name 2) (M.pure true) (mZ (mCall ph__law_pick [.p 0, .p 1] (mCons (mVar 0) (mCons (mVar 1) (M.pure []))) (M.pure [])))) (env := [.fz (.cell n), .fz (.str z), .no]) (I := fun cs => Pot cs n) (P := fun y => ∃ c : Nat, y = .str ⟨#[c]⟩ ∧ c < 200) (rangeD 0 k.toNat) cs3 h3 fun d hd cs0 h0 => by
    obtain ⟨c, cs5, e5, hc, h5⟩ := r_pick h0 z0 z1
    refine ⟨_, cs5, ?_, ⟨c, rfl, z2 c hc⟩, h5⟩
    simp [e5]
  obtain ⟨l, rfl, hll, hlc⟩ := toks_mem hP
  have hlen : l.length = k.toNat := by
    rw [hll, hl]
    simp [rangeD]
  have hk : -1000000 ≤ k ∧ k ≤ 1000000 := by omega
  have hj : (Txt.join (Str.ofString "") (l.map fun c => ⟨#[c]⟩)).cps.toList = l := join_ones l
  refine ⟨Txt.join (Str.ofString "") (l.map fun c => ⟨#[c]⟩), cs4, ?_, ?_, ?_, h4⟩
  · have o1 := ones_len l
    have e0 : (Str.ofString "").length = 0 := rfl
    have hs : ((l.map fun c => (⟨#[c]⟩ : Str)).map (·.length)).sum + (l.map fun c => (⟨#[c]⟩ : Str)).length * (Str.ofString "").length ≤ 16777216 := by
      rw [o1, e0]
      omega
    have oj : opJoin (.str (Str.ofString "")) (.lst (l.map fun c => D.str ⟨#[c]⟩)) = some (.str (Txt.join (Str.ofString "") (l.map fun c => ⟨#[c]⟩)), false) := by
      show (strsD (l.map fun c => D.str ⟨#[c]⟩)).bind _ = _
      rw [strsD_ones]
      show (if _ then _ else _) = _
      rw [if_pos hs]
    have m0 : m__law_word = mSeq (mSet 1 (mOp2 (dr2 opAdd) (mZ (mOp2 (dr2 opAdd) (M.pure (.str (Str.ofString "abmz019"))) (mZ (mOp2 (dr2 opMul) (M.pure (.str (Str.ofString "abcxyz789"))) (mZ (mCall ph__law_draw [.p 0, .p 1] (mCons (mVar 0) (mCons (M.pure (.int 2)) (M.pure []))) (M.pure []))))))) (mZ (mOp2 (dr2 opMul) (M.pure (.str (Str.ofString "A_. -Z~"))) (mZ (mOpN (drN fInt) (mCons (mZ (mOp2 (dr2 opEq) (mZ (mCall ph__law_draw [.p 0, .p 1] (mCons (mVar 0) (mCons (M.pure (.int 4)) (M.pure []))) (M.pure []))) (M.pure (.int 0)))) (M.pure [])))))))) _ := rfl
    simp only [ph__law_word, runDef, startE, List.map_cons, List.map_nil, List.length_cons, List.length_nil, m0, ap_seq]
    have ez' : ∀ x, x = [EL.Slot.fz (.cell n), .no, .no] → _ := fun x hx => hx ▸ ez
    rw [show ([EL.Slot.fz (.cell n)] ++ List.replicate (3 - (0 + 1)) EL.Slot.no) = [.fz (.cell n), .no, .no] from rfl, ez]
    simp [e3, hk, ec, oj, -EL.opJoin]
  · show (Txt.join _ _).cps.size ≤ 8
    rw [← Array.length_toList, hj]
    omega
  · rw [hj]
    exact hlc
end K10
namespace K10
open PySem PySem.Spec L2 EL
def Ok1 (d : D) : Prop := (∃ n, tyN d = some n) ∧ ∀ x, d = .str x → x.length ≤ 1000
def Ok2 (d : D) : Prop := Ok1 d ∧ ∀ ds, d = .tup ds → ds.length ≤ 1000 ∧ ∀ e ∈ ds, Ok1 e
def low (c : Nat) : Bool := inS ⟨#[c]⟩ (Str.ofString "abcdefghijklmnopqrstuvwxyz")
def dig (c : Nat) : Bool := inS ⟨#[c]⟩ (Str.ofString "0123456789")
theorem ld (c : Nat) : inS ⟨#[c]⟩ (Str.ofString "abcdefghijklmnopqrstuvwxyz" ++ Str.ofString "0123456789") = (low c || dig c) := by
  unfold low dig inS
  rw [PySem.StrLaws.found_one, PySem.StrLaws.found_one, PySem.StrLaws.found_one]
  have e : (Str.ofString "abcdefghijklmnopqrstuvwxyz" ++ Str.ofString "0123456789").cps.toList = (Str.ofString "abcdefghijklmnopqrstuvwxyz").cps.toList ++ (Str.ofString "0123456789").cps.toList := Array.toList_append
  rw [e, Bool.eq_iff_iff]
  simp only [decide_eq_true_eq, List.mem_append, Bool.or_eq_true]
def nameL (l : List Nat) : Bool := decide (1 ≤ l.length ∧ l.length ≤ 6) && (match l with
  | [] => false
  | c :: l => low c && (c :: l).all fun c => low c || dig c)
def isI : D → Bool
  | .int _ => true
  | _ => false
def cntB : D → Bool
  | .int i => decide (0 ≤ i)
  | _ => false
def nameB : D → Bool
  | .str x => nameL x.cps.toList
  | _ => false
def moveB : D → Bool
  | .tup ds => decide (ds.length = 3) && ds.all nameB
  | _ => false
theorem r_is_integer {d : D} (h : Ok1 d) (cs : Cells) : ph_is_integer [d] cs = .ok (.bl (isI d)) false cs := by
  obtain ⟨⟨n, hn⟩, _⟩ := h
  cases d <;> first | (cases hn; done) | rfl
theorem r_is_number {d : D} (h : Ok1 d) (cs : Cells) : ph__law_is_number [d] cs = .ok (.bl (isI d)) false cs := by
  obtain ⟨⟨n, hn⟩, _⟩ := h
  cases d <;> first | (cases hn; done) | rfl | skip
  rename_i b _
  cases b <;> rfl
theorem r_is_count {d : D} (h : Ok1 d) (cs : Cells) : ph_is_count [d] cs = .ok (.bl (cntB d)) false cs := by
  have h1 := r_is_integer h cs
  obtain ⟨⟨n, hn⟩, _⟩ := h
  cases d <;> first | (cases hn; done) | skip
  all_goals simp [ph_is_count, m_is_count, h1, isI, cntB]
theorem r_is_name {d : D} (h : Ok1 d) (cs : Cells) : ph_is_name [d] cs = .ok (.bl (nameB d)) false cs := by
  obtain ⟨⟨n, hn⟩, hx⟩ := h
  cases d <;> first | (cases hn; done) | rfl | skip
  rename_i x
  have hl := hx x rfl
  obtain ⟨⟨l⟩⟩ := x
  have hlen : Str.length ⟨⟨l⟩⟩ = l.length := rfl
  rw [hlen] at hl
  have e3 : sizeLine = 16777216 := rfl
  have hls : l.length ≤ sizeLine := by omega
  cases l with
  | nil => rfl
  | cons c l =>
    have a1 : (1 : Int) ≤ ((c :: l).length : Int) := by rw [List.length_cons]; omega
    by_cases h6 : (c :: l).length ≤ 6
    · have a2 : ((c :: l).length : Int) ≤ 6 := by omega
      have key : compM (turnM [1] (.name 1) (M.pure true) (mZ (mOp2 (drR (opIn false)) (mVar 1) (mZ (mOp2 (dr2 opAdd) (M.pure (.str (Str.ofString "abcdefghijklmnopqrstuvwxyz"))) (M.pure (.str (Str.ofString "0123456789")))))))) ((c :: l).map fun c => D.str ⟨#[c]⟩) [.fz (.str ⟨⟨c :: l⟩⟩), .no] cs =
          .ok ((c :: l).map fun c => D.bl (low c || dig c)) [.fz (.str ⟨⟨c :: l⟩⟩), .no] cs := compM_map (c :: l) fun c hc => by
        have q : (Str.ofString "abcdefghijklmnopqrstuvwxyz").length + (Str.ofString "0123456789").length ≤ sizeLine := by decide
        simp [q, ld]
      have hb := blsD_map (fun c => low c || dig c) (c :: l)
      have hi : itemsD (.str ⟨⟨c :: l⟩⟩) = some ((c :: l).map fun c => D.str ⟨#[c]⟩) := items_str (by rw [hlen]; exact hls)
      have a3 : l.length + 1 ≤ 6 := h6
      have a4 : ((l.length : Int) + 1) ≤ 6 := by omega
      have a5 : l.length + 1 ≤ sizeLine := hls
      have a6 : (1 : Int) ≤ (l.length : Int) + 1 := by omega
      have hlow : inS ⟨#[c]⟩ (Str.ofString "abcdefghijklmnopqrstuvwxyz") = low c := rfl
      simp only [List.map_cons] at key hb hi
      cases hc : low c with
      | true =>
        simp only [hc, Bool.true_or] at hb key
        simp [ph_is_name, m_is_name, hlen, a3, a4, a5, a6, L2.atI, ixN, hlow, hc, hi, key, hb, nameB, nameL]
      | false =>
        simp [ph_is_name, m_is_name, hlen, a3, a4, a5, a6, L2.atI, ixN, hlow, hc, nameB, nameL]
    · have a2 : ¬ ((c :: l).length : Int) ≤ 6 := by omega
      have a3 : ¬ l.length + 1 ≤ 6 := h6
      have a4 : ¬ ((l.length : Int) + 1) ≤ 6 := by omega
      have a5 : l.length + 1 ≤ sizeLine := hls
      have a6 : (1 : Int) ≤ (l.length : Int) + 1 := by omega
      simp [ph_is_name, m_is_name, hlen, a3, a4, a5, a6, nameB, nameL]
theorem r_l_is_name {d : D} (h : Ok1 d) (cs : Cells) : ph__law_is_name [d] cs = .ok (.bl (nameB d)) false cs := by
  obtain ⟨⟨n, hn⟩, hx⟩ := h
  cases d <;> first | (cases hn; done) | rfl | skip
  rename_i x
  have hl := hx x rfl
  obtain ⟨⟨l⟩⟩ := x
  have hlen : Str.length ⟨⟨l⟩⟩ = l.length := rfl
  rw [hlen] at hl
  have e3 : sizeLine = 16777216 := rfl
  have hls : l.length ≤ sizeLine := by omega
  cases l with
  | nil => rfl
  | cons c l =>
    have hne : ¬ (⟨⟨c :: l⟩⟩ : Str) = Str.ofString "" := fun h => by
      have := congrArg (fun s : Str => s.cps.toList) h
      simp at this
      cases this
    have a5 : l.length + 1 ≤ sizeLine := hls
    by_cases h6 : (c :: l).length ≤ 6
    · have key : compM (turnM [2] (.name 2) (M.pure true) (mZ (mOrV (mZ (mOp2 (drR (opIn false)) (mVar 2) (mPeek 1))) (mOp2 (drR (opIn false)) (mVar 2) (M.pure (.str (Str.ofString "0123456789"))))))) ((c :: l).map fun c => D.str ⟨#[c]⟩) [.fz (.str ⟨⟨c :: l⟩⟩), .fz (.str (Str.ofString "abcdefghijklmnopqrstuvwxyz")), .no] cs =
          .ok ((c :: l).map fun c => D.bl (low c || dig c)) [.fz (.str ⟨⟨c :: l⟩⟩), .fz (.str (Str.ofString "abcdefghijklmnopqrstuvwxyz")), .no] cs := compM_map (c :: l) fun c hc => by
        have q1 : inS ⟨#[c]⟩ (Str.ofString "abcdefghijklmnopqrstuvwxyz") = low c := rfl
        have q2 : inS ⟨#[c]⟩ (Str.ofString "0123456789") = dig c := rfl
        cases hlo : low c <;> simp [q1, q2, hlo]
      have hb := blsD_map (fun c => low c || dig c) (c :: l)
      have hi : itemsD (.str ⟨⟨c :: l⟩⟩) = some ((c :: l).map fun c => D.str ⟨#[c]⟩) := items_str (by rw [hlen]; exact hls)
      have a3 : l.length + 1 ≤ 6 := h6
      have a4 : ¬ (6 : Int) < ((l.length : Int) + 1) := by omega
      have hlow : inS ⟨#[c]⟩ (Str.ofString "abcdefghijklmnopqrstuvwxyz") = low c := rfl
      simp only [List.map_cons] at key hb hi
      cases hc : low c with
      | true =>
        simp only [hc, Bool.true_or] at hb key
        simp [ph__law_is_name, m__law_is_name, eqD, hne, hlen, a3, a4, a5, L2.atI, ixN, hlow, hc, hi, key, hb, nameB, nameL]
      | false => simp [ph__law_is_name, m__law_is_name, eqD, hne, hlen, a3, a4, a5, L2.atI, ixN, hlow, hc, nameB, nameL]
    · have a3 : ¬ l.length + 1 ≤ 6 := h6
      have a4 : (6 : Int) < ((l.length : Int) + 1) := by
        have : ¬ l.length + 1 ≤ 6 := h6
        omega
      simp [ph__law_is_name, m__law_is_name, eqD, hne, hlen, a3, a4, a5, nameB, nameL]
theorem r_is_move {d : D} (h : Ok2 d) (cs : Cells) : ph_is_move [d] cs = .ok (.bl (moveB d)) false cs := by
  obtain ⟨⟨⟨n, hn⟩, hx⟩, ht⟩ := h
  cases d <;> first | (cases hn; done) | rfl | skip
  rename_i ds
  obtain ⟨hl, hd⟩ := ht ds rfl
  have key : compM (turnM [1] (.name 1) (M.pure true) (mZ (mCall ph_is_name [.p 0] (mCons (mVar 1) (M.pure [])) (M.pure [])))) ds [.fz (.tup ds), .no] cs = .ok (ds.map fun e => D.bl (nameB e)) [.fz (.tup ds), .no] cs := by
    have := compM_map (turn := turnM [1] (.name 1) (M.pure true) (mZ (mCall ph_is_name [.p 0] (mCons (mVar 1) (M.pure [])) (M.pure [])))) (h := id) (k := fun e => D.bl (nameB e)) (env := [.fz (.tup ds), .no]) (cs := cs) ds fun e he => by simp [r_is_name (hd e he)]
    simpa using this
  have hb := blsD_map (fun e => nameB e) ds
  by_cases h3 : ds.length = 3
  · have h3' : (ds.length : Int) = 3 := by omega
    simp [ph_is_move, m_is_move, eqD, h3, h3', key, hb, moveB]
  · have h3' : ¬ (ds.length : Int) = 3 := by omega
    simp [ph_is_move, m_is_move, eqD, h3, h3', moveB]
theorem r_l_is_move {d : D} (h : Ok2 d) (cs : Cells) : ph__law_is_move [d] cs = .ok (.bl (moveB d)) false cs := by
  obtain ⟨⟨⟨n, hn⟩, hx⟩, ht⟩ := h
  cases d <;> first | (cases hn; done) | rfl | skip
  rename_i ds
  obtain ⟨hl, hd⟩ := ht ds rfl
  have key : compM (turnM [1] (.name 1) (M.pure true) (mZ (mCall ph__law_is_name [.p 0] (mCons (mVar 1) (M.pure [])) (M.pure [])))) ds [.fz (.tup ds), .no] cs = .ok (ds.map fun e => D.bl (nameB e)) [.fz (.tup ds), .no] cs := by
    have := compM_map (turn := turnM [1] (.name 1) (M.pure true) (mZ (mCall ph__law_is_name [.p 0] (mCons (mVar 1) (M.pure [])) (M.pure [])))) (h := id) (k := fun e => D.bl (nameB e)) (env := [.fz (.tup ds), .no]) (cs := cs) ds fun e he => by simp [r_l_is_name (hd e he)]
    simpa using this
  have hb := blsD_map (fun e => nameB e) ds
  by_cases h3 : ds.length = 3
  · have h3' : (ds.length : Int) = 3 := by omega
    simp [ph__law_is_move, m__law_is_move, eqD, h3, h3', key, hb, moveB]
  · have h3' : ¬ (ds.length : Int) = 3 := by omega
    simp [ph__law_is_move, m__law_is_move, eqD, h3, h3', moveB]
end K10
namespace K10
open PySem PySem.Spec L2 EL
abbrev q (s : String) : D := .str (Str.ofString s)
def rowL (x y : Str) (m : Int) : List D := [.str x, .tup [.str x, .str y, q "a"], .tup [q "t", .str x, .str y], .lst [q "t", q "a", q "b"], .tup [q "t", q "a"], .tup [q "t", q "a", q "b", q "c"], .tup [.str x],
  .tup [q "t", q "a", q "b"], .tup [q "t", q "t", q "t"], .tup [q "t", .non, q "b"], .tup [q "t", q "a", .bl true], .tup [.int 1, q "a", q "b"],
  .tup [.tup [q "t"], q "a", q "b"],
  .tup [q "t", .lst [q "a"], q "b"], .tup [q "abcdef", q "a", q "z9"], .tup [q "abcdefg", q "a", q "b"], .tup [q "t", q "", q "b"], .tup [q "t", q "a", q "1"],
  .int m, .int (0 - m), .int 0, .int 1, .int (0 - 1), .bl true, .bl false, .non, q "", q "a", q "a1", q "1a", q "abcdef", q "abcdefg", q "a b", q "A",
  q "a\n", q "\na", .tup [q "t", q "a", q "b\n"], .lst [], .tup [], .dct [], .dct [(.inr x, .str y)], .lst [.int 1], q "tab"]
@[simp] theorem ap_repr {m : M D} {e : EL.Env} {c : Cells} : mRepr m e c = M.bind m (fun a => mCs fun cs => (dr cs a).bind reprD) e c := rfl
@[simp] theorem ap_parK {i j : Nat} {a b : D} {e : EL.Env} {c : Cells} : parK i j [a, b] e c = M.bind (mPut i (a, false)) (fun _ => (mPut j (b, false)).bind fun _ => M.pure .nx) e c := rfl
@[simp] theorem ap_par {i j : Nat} {m : M (List D)} {e : EL.Env} {c : Cells} : mPar i j m e c = M.bind m (parK i j) e c := rfl
@[simp] theorem ap_dict0 {e : EL.Env} {c : Cells} : mDict [] e c = .ok (.dct [], true) e c := rfl
@[simp] theorem ap_dict1 {mk mv : M D} {e : EL.Env} {c : Cells} : mDict [(mk, mv)] e c = M.bind mk (fun x => mv.bind fun y => (M.opt (keyD x)).bind fun k => M.pure (.dct [(k, y)], true)) e c := by
  unfold mDict mPairs
  simp only [ap_bind]
  cases mk e c with
  | stuck => rfl
  | exc => rfl
  | ok x e1 c1 =>
    simp only [ap_bind]
    cases mv e1 c1 with
    | stuck => rfl
    | exc => rfl
    | ok y e2 c2 =>
      simp only [ap_bind]
      cases keyD x with
      | none => rfl
      | some k => rfl
theorem r_row {cs : Cells} {n : Nat} (h : Pot cs n) : ∃ (x y : Str) (m : Int) (cs' : Cells), ph__law_row [.cell n] cs = .ok (.lst (rowL x y m)) true cs' ∧ (x.length ≤ 8 ∧ ∀ c ∈ x.cps.toList, c < 200) ∧ (y.length ≤ 8 ∧ ∀ c ∈ y.cps.toList, c < 200) ∧ 0 ≤ m ∧ m < 10 ^ 30 := by
  obtain ⟨x, cs1, e1, x1, x2, h1⟩ := r_word h
  obtain ⟨y, cs2, e2, y1, y2, h2⟩ := r_word h1
  obtain ⟨m, cs3, e3, m0, m1, h3⟩ := r_draw (s := 1000000000000000000000000000000) h2 (by omega) (by omega)
  refine ⟨x, y, m, cs3, ?_, ⟨x1, x2⟩, ⟨y1, y2⟩, m0, by omega⟩
  have pf : powFit 10 30 = true := by decide
  have l1 : 7 + 5 ≤ sizeLine := by decide
  have l2 : 12 + 1 ≤ sizeLine := by decide
  have l3 : 13 + 5 ≤ sizeLine := by decide
  have l4 : 18 + 16 ≤ sizeLine := by decide
  have l5 : 34 + 9 ≤ sizeLine := by decide
  have ls : sizeLine = 16777216 := rfl
  simp [ph__law_row, m__law_row, e1, e2, e3, pf, ls, keyD, rowL]
def ok1B (d : D) : Bool := (tyN d).isSome && (match d with
  | .str x => decide (x.length ≤ 1000)
  | _ => true)
def ok2B (d : D) : Bool := ok1B d && (match d with
  | .tup ds => decide (ds.length ≤ 1000) && ds.all ok1B
  | _ => true)
theorem ok1_of {d : D} (h : ok1B d = true) : Ok1 d := by
  unfold ok1B at h
  obtain ⟨h1, h2⟩ := Bool.and_eq_true_iff.mp h
  refine ⟨Option.isSome_iff_exists.mp h1, ?_⟩
  rintro x rfl
  exact of_decide_eq_true h2
theorem ok2_of {d : D} (h : ok2B d = true) : Ok2 d := by
  unfold ok2B at h
  obtain ⟨h1, h2⟩ := Bool.and_eq_true_iff.mp h
  refine ⟨ok1_of h1, ?_⟩
  rintro ds rfl
  obtain ⟨h3, h4⟩ := Bool.and_eq_true_iff.mp h2
  exact ⟨of_decide_eq_true h3, fun e he => ok1_of (List.all_eq_true.mp h4 e he)⟩
theorem row_ok {x y : Str} {m : Int} (hx : x.length ≤ 8) (hy : y.length ≤ 8) : ∀ d ∈ rowL x y m, Ok2 d := by
  have h : (rowL x y m).all ok2B = true := by
    have hx' : decide (x.length ≤ 1000) = true := decide_eq_true (by omega)
    have hy' : decide (y.length ≤ 1000) = true := decide_eq_true (by omega)
    have e : (rowL x y m).all ok2B = (decide (x.length ≤ 1000) && decide (y.length ≤ 1000)) := by
      simp only [rowL, List.all_cons, List.all_nil, ok2B, ok1B, tyN, Option.isSome_some, Bool.true_and, List.length_cons, List.length_nil, hx', hy', Bool.and_true]
      rfl
    rw [e, hx', hy']
    rfl
  exact fun d hd => ok2_of (List.all_eq_true.mp h d hd)
def rowP (x y : Str) (m : Int) : List PyData :=
  let s : String → PyData := fun z => .str (Str.ofString z)
  [.str x, .tuple [.str x, .str y, s "a"], .tuple [s "t", .str x, .str y], .list [s "t", s "a", s "b"], .tuple [s "t", s "a"], .tuple [s "t", s "a", s "b", s "c"], .tuple [.str x],
  .tuple [s "t", s "a", s "b"], .tuple [s "t", s "t", s "t"], .tuple [s "t", .none, s "b"], .tuple [s "t", s "a", .bool true], .tuple [.int 1, s "a", s "b"],
  .tuple [.tuple [s "t"], s "a", s "b"],
  .tuple [s "t", .list [s "a"], s "b"], .tuple [s "abcdef", s "a", s "z9"], .tuple [s "abcdefg", s "a", s "b"], .tuple [s "t", s "", s "b"], .tuple [s "t", s "a", s "1"],
  .int m, .int (0 - m), .int 0, .int 1, .int (0 - 1), .bool true, .bool false, .none, s "", s "a", s "a1", s "1a", s "abcdef", s "abcdefg", s "a b", s "A",
  s "a\n", s "\na", .tuple [s "t", s "a", s "b\n"], .list [], .tuple [], .dict [], .dict [(.str x, .str y)], .list [.int 1], s "tab"]
theorem wAll {B : Nat} : ∀ xs : List PyData, (∀ x ∈ xs, PyData.weight x ≤ B) → PyData.weightAll xs ≤ xs.length * (B + 1)
  | [], _ => by simp [PyData.weightAll]
  | x :: xs, h => by
    have h1 := h x List.mem_cons_self
    have h2 := wAll xs fun y hy => h y (List.mem_cons_of_mem _ hy)
    simp only [PyData.weightAll, List.length_cons, Nat.add_mul]
    omega
/-- the row's text -/
theorem row_repr {x y : Str} {m : Int} (hx : x.length ≤ 8 ∧ ∀ c ∈ x.cps.toList, c < 200) (hy : y.length ≤ 8 ∧ ∀ c ∈ y.cps.toList, c < 200) (m0 : 0 ≤ m) (m1 : m < 10 ^ 30) : ∃ t, reprD (.lst (rowL x y m)) = some (.str t, false) := by
  have hm : m.natAbs.log2 < 100 := PySem.Flt.log2_lt_of (by decide) (by omega)
  have hm2 : (0 - m).natAbs.log2 < 100 := PySem.Flt.log2_lt_of (by decide) (by omega)
  have sx : x.cps.toList.all (fun c => decide (c < 16 ^ 8)) = true := List.all_eq_true.mpr fun c hc => decide_eq_true (by have := hx.2 c hc; omega)
  have sy : y.cps.toList.all (fun c => decide (c < 16 ^ 8)) = true := List.all_eq_true.mpr fun c hc => decide_eq_true (by have := hy.2 c hc; omega)
  have ti : ∀ i : Int, i.natAbs < 10 ^ 31 → decide ((PyData.shown (.int i)).length ≤ 40) = true := fun i hi => decide_eq_true (by
    have e := int_text_length_le10 (k := 31) (by decide) hi
    show (Str.ofString (toString i)).length ≤ 40
    rw [PySem.ofString_length]
    omega)
  have t1 := ti m (by omega)
  have t2 := ti (0 - m) (by omega)
  unfold reprD
  have hp : pD (.lst (rowL x y m)) = some (.list (rowP x y m)) := by
    simp only [rowL, rowP, pD, pDs, pKs, Option.map_some, Option.bind_some, kP]
  rw [hp]
  have c1 : (PyData.list (rowP x y m)).showable = true := by
    simp only [rowP, PyData.showable, PyData.showableAll, PyData.showableKv, decide_eq_true (show m.natAbs.log2 < 1920 by omega), decide_eq_true (show (0 - m).natAbs.log2 < 1920 by omega), Bool.and_true, Bool.true_and]
    rfl
  have c2 : decide ((PyData.list (rowP x y m)).depth ≤ 40) = true := by
    simp only [rowP, PyData.depth, PyData.depthAll, PyData.depthKv]
    rfl
  have c3 : decide ((PyData.list (rowP x y m)).shown.length ≤ sizeLine) = true := by
    have h1 : (PyData.list (rowP x y m)).leavesShort 40 = true := by
      simp only [rowP, PyData.leavesShort, PyData.leavesShortAll, PyData.leavesShortKv, sx, sy, t1, t2, Bool.and_true, Bool.true_and]
      rfl
    have h2 := PyData.shown_le 40 (by decide) _ h1
    have h3 : (PyData.list (rowP x y m)).weight ≤ 43 * 201 := by
      have e1 : x.cps.size ≤ 8 := hx.1
      have e2 : y.cps.size ≤ 8 := hy.1
      have e3 : (if (m == 0) = true then 0 else m.natAbs.log2 + 1) ≤ 100 := by split <;> omega
      have e4 : (if ((0 - m) == 0) = true then 0 else (0 - m).natAbs.log2 + 1) ≤ 100 := by split <;> omega
      have b : ∀ p ∈ rowP x y m, PyData.weight p ≤ 200 := by
        intro p hp
        simp only [rowP, List.mem_cons, List.not_mem_nil, or_false] at hp
        have ka : (Str.ofString "a").cps.size = 1 := rfl
        have kt : (Str.ofString "t").cps.size = 1 := rfl
        rcases hp with rfl | rfl | rfl | rfl | rfl | rfl | rfl | rfl | rfl | rfl | rfl | rfl | rfl | rfl | rfl | rfl | rfl | rfl | rfl | rfl | rfl | rfl | rfl | rfl | rfl | rfl | rfl | rfl | rfl | rfl | rfl | rfl | rfl | rfl | rfl | rfl | rfl | rfl | rfl | rfl | rfl | rfl | rfl
        all_goals first
          | exact Nat.le_of_ble_eq_true rfl
          | (simp only [PyData.weight, PyData.weightAll, PyData.weightKv, ka, kt]; omega)
      exact wAll (rowP x y m) b
    have e : sizeLine = 16777216 := rfl
    exact decide_eq_true (by omega)
  simp only [Option.bind_some, c1, c2, c3, Bool.and_self, if_true]
  exact ⟨_, rfl⟩
end K10
namespace K10
open PySem PySem.Spec L2 EL
theorem four (a b c d : Bool) : ∃ t, reprD (.lst [.bl a, .bl b, .bl c, .bl d]) = some (.str t, false) := by
  have h : ∀ a b c d : Bool, (PyData.showable (.list [.bool a, .bool b, .bool c, .bool d]) && decide ((PyData.list [.bool a, .bool b, .bool c, .bool d]).depth ≤ 40) && decide ((PyData.list [.bool a, .bool b, .bool c, .bool d]).shown.length ≤ sizeLine)) = true := by decide +kernel
  have hp : pD (.lst [.bl a, .bl b, .bl c, .bl d]) = some (.list [.bool a, .bool b, .bool c, .bool d]) := by simp only [pD, pDs, Option.map_some, Option.bind_some]
  unfold reprD
  rw [hp]
  simp only [Option.bind_some, h a b c d, if_true]
  exact ⟨_, rfl⟩
theorem r_right {cs : Cells} {n : Nat} (h : Pot cs n) : ∃ cs', ph__law_right [.cell n] cs = .ok (.bl true) false cs' := by
  obtain ⟨x, y, m, cs1, e1, hx, hy, m0, m1⟩ := r_row h
  obtain ⟨t, ht⟩ := row_repr hx hy m0 m1
  have hok := row_ok (m := m) hx.1 hy.1
  generalize rowL x y m = ds at *
  have loop : ∃ env' cs', forM (fun d => (mTg (.name 3) d).bind fun _ => (mSeq (mSet 4 (mLst (mCons (mZ (mCall ph__law_is_number [.p 0] (mCons (mVar 3) (M.pure [])) (M.pure []))) (mCons (mZ (mAndV (mZ (mCall ph__law_is_number [.p 0] (mCons (mVar 3) (M.pure [])) (M.pure []))) (mOp2 (dr2 opGe) (mPeek 3) (M.pure (.int 0))))) (mCons (mZ (mCall ph__law_is_name [.p 0] (mCons (mVar 3) (M.pure [])) (M.pure []))) (mCons (mZ (mCall ph__law_is_move [.p 0] (mCons (mVar 3) (M.pure [])) (M.pure []))) (M.pure [])))))))
    (mSeq (mIf (mBl (mOp2 (dr2 opNe) (mZ (mRepr (mZ (mLst (mCons (mZ (mCall ph_is_integer [.p 0] (mCons (mVar 3) (M.pure [])) (M.pure []))) (mCons (mZ (mCall ph_is_count [.p 0] (mCons (mVar 3) (M.pure [])) (M.pure []))) (mCons (mZ (mCall ph_is_name [.p 0] (mCons (mVar 3) (M.pure [])) (M.pure []))) (mCons (mZ (mCall ph_is_move [.p 0] (mCons (mVar 3) (M.pure [])) (M.pure []))) (M.pure []))))))))) (mZ (mRepr (mPeek 4))))) (mSeq (mRet (mE (M.pure (.bl false))))
    (M.pure .nx)) (M.pure .nx))
    (mSeq (mSet 5 (mLst (mCons (mZ (mCall ph_is_integer [.k 0] (M.pure []) (mCons (mVar 3) (M.pure [])))) (mCons (mZ (mCall ph_is_count [.k 0] (M.pure []) (mCons (mVar 3) (M.pure [])))) (mCons (mZ (mCall ph_is_name [.k 0] (M.pure []) (mCons (mVar 3) (M.pure [])))) (mCons (mZ (mCall ph_is_move [.k 0] (M.pure []) (mCons (mVar 3) (M.pure [])))) (M.pure [])))))))
    (mSeq (mIf (mBl (mOp2 (dr2 opNe) (mZ (mRepr (mPeek 5))) (mZ (mRepr (mPeek 4))))) (mSeq (mRet (mE (M.pure (.bl false))))
    (M.pure .nx)) (M.pure .nx))
    (M.pure .nx)))))) ds [.fz (.cell n), .fz (.lst ds), .fz (.str t), .no, .no, .no] cs1 = .ok .nx env' cs' ∧ (cs' = cs1 ∧ ∃ s3 s4 s5, env' = [.fz (.cell n), .fz (.lst ds), .fz (.str t), s3, s4, s5]) := by
    refine forM_inv (I := fun env' cs' => cs' = cs1 ∧ ∃ s3 s4 s5, env' = [.fz (.cell n), .fz (.lst ds), .fz (.str t), s3, s4, s5]) _ _ _ ⟨rfl, _, _, _, rfl⟩ ?_
    rintro d hd env cs0 ⟨rfl, s3, s4, s5, rfl⟩
    have hd2 := hok d hd
    have p1 := r_is_number hd2.1 cs0
    have p2 := r_l_is_name hd2.1 cs0
    have p3 := r_l_is_move hd2 cs0
    have p4 := r_is_integer hd2.1 cs0
    have p5 := r_is_count hd2.1 cs0
    have p6 := r_is_name hd2.1 cs0
    have p7 := r_is_move hd2 cs0
    by_cases hI : ∃ i, d = .int i
    · obtain ⟨i, rfl⟩ := hI
      obtain ⟨tt, htt⟩ := four true (decide (0 ≤ i)) (nameB (.int i)) (moveB (.int i))
      simp only [isI, cntB] at p1 p4 p5
      simp [p1, p2, p3, p4, p5, p6, p7, htt, eqD]
      exact ⟨_, _, ⟨rfl, rfl⟩, rfl, _, _, _, rfl⟩
    · have h1 : isI d = false := by
        cases d <;> first | rfl | exact (hI ⟨_, rfl⟩).elim
      have h2 : cntB d = false := by
        cases d <;> first | rfl | exact (hI ⟨_, rfl⟩).elim
      rw [h1] at p1 p4
      rw [h2] at p5
      obtain ⟨tt, htt⟩ := four false false (nameB d) (moveB d)
      simp [p1, p2, p3, p4, p5, p6, p7, htt, eqD]
      exact ⟨_, _, ⟨rfl, rfl⟩, rfl, _, _, _, rfl⟩
  obtain ⟨env', cs', lp, rfl, s3, s4, s5, rfl⟩ := loop
  refine ⟨cs', ?_⟩
  simp [ph__law_right, m__law_right, e1, ht, lp, eqD]
theorem pure_law (ns : List Int) (hn : ns.length ≤ 63) : ∃ cs, ph_law [.lst (ns.map D.int)] [] = .ok (.bl true) false cs := by
  have key : ∀ k : Nat, k ≤ 63 → ∃ xs cs', compM (turnM [1] (.name 1) (M.pure true) (mZ (mCall ph__law_right [.p 0] (mCons (mCell (mCall ph__law_pot [.p 0, .p 1] (mCons (mVar 0) (mCons (mVar 1) (M.pure []))) (M.pure []))) (M.pure [])) (M.pure [])))) (rangeD 0 k) [.fz (.lst (ns.map D.int)), .no] [] = .ok xs [.fz (.lst (ns.map D.int)), .no] cs' ∧ xs.length = (rangeD 0 k).length ∧ (∀ x ∈ xs, x = .bl true) ∧ True := fun k hk => by
    refine compM_inv (I := fun _ => True) (P := fun x => x = .bl true) (rangeD 0 k) [] trivial fun d hd cs _ => ?_
    obtain ⟨j, hj, rfl⟩ := List.mem_map.mp hd
    have hj2 : j < k := List.mem_range.mp hj
    obtain ⟨a, b, e1, ha, hb, hb2⟩ := r_pot ns j (by omega) cs
    have hp : Pot (cs ++ [.lst [.int a, .int b]]) cs.length := ⟨a, b, by simp, ha, hb, hb2⟩
    obtain ⟨cs2, e2⟩ := r_right hp
    refine ⟨_, cs2, ?_, rfl, trivial⟩
    have e0 : (0 : Int) + (j : Int) = j := by omega
    simp [e0, e1, e2]
  obtain ⟨k, hk, hr⟩ : ∃ k : Nat, k ≤ 63 ∧ ∀ e c, mRng1 (mCons (mZ (mOpN (drN fMax) (mCons (M.pure (.int 1)) (mCons (mZ (mOpN (drN fMin) (mCons (mZ (mOpN (drN fLen) (mCons (mPeek 0) (M.pure [])))) (mCons (M.pure (.int 4)) (M.pure []))))) (M.pure []))))) (M.pure [])) (.fz (.lst (ns.map D.int)) :: e) c = .ok (rangeD 0 k) (.fz (.lst (ns.map D.int)) :: e) c := by
    let i : Int := if 1 < (if (4 : Int) < ns.length then 4 else (ns.length : Int)) then (if (4 : Int) < ns.length then 4 else (ns.length : Int)) else 1
    have hi : 1 ≤ i ∧ i ≤ 63 := by
      show 1 ≤ (if _ then _ else _ : Int) ∧ (if _ then _ else _ : Int) ≤ 63
      split <;> split <;> omega
    refine ⟨i.toNat, by omega, fun e c => ?_⟩
    have h1 : -1000000 ≤ i ∧ i ≤ 1000000 := by omega
    simp [fMinL, fMaxL]
    rw [if_pos (show _ ∧ _ from h1)]
    rfl
  obtain ⟨xs, cs', e, hl, hx, _⟩ := key k hk
  obtain ⟨l, hl2, _, _⟩ := list_of (α := Unit) (h := fun _ => D.bl true) (P := fun _ => True) (xs := xs) fun x h => ⟨(), hx x h, trivial⟩
  subst hl2
  have hb := blsD_map (fun _ : Unit => true) l
  have hr0 := hr [.no] []
  refine ⟨cs', ?_⟩
  simp [ph_law, m_law] at hr0 ⊢
  rw [hr0]
  simp [e, hb]
end K10
open PySem PySem.W PySem.Calls PyProof.Rows
theorem PySem.Challenge.cw_neverlost_k10_names_and_moves_holds : PySem.Challenge.rw_neverlost_k10_names_and_moves.Holds := by
  w_on; o_law
  refine HandSHeadRun.head_any (r := K10.R) (q := view K10.R.prog [18]) (H := K10.hk) (ob := K10.ob) (M := 6000) (loose := K10.loose) (d := HandSHeadRun.topDef K10.R.prog 18) (kwd := []) K10.ob_eq
    (by kernel_rfl) (fun s => by kernel_rfl) K10.run (by kernel_rfl) (by kernel_rfl) (by kernel_rfl) (by rfl) (by first | assumption | decide +kernel) (by decide +kernel) ⟨rfl, rfl, rfl, rfl, rfl, by decide +kernel⟩ ?hw ?hc
  case hw => w_witness2
  case hc =>
    refine EL.walk_end (l := PySem.Challenge.rw_neverlost_k10_names_and_moves) (n := 63) (k := 6) (x := PySem.Str.ofString "_law_script") (φ := K10.ph_law) rfl (by decide) (by kernel_rfl) ⟨rfl, by decide, by decide⟩ K10.pure_law ?F
    intro w mg h Y G
    obtain ⟨K, KX, c, hsy⟩ := Y
    obtain ⟨f, fd, hF, hb⟩ := K10.facts (fun _ => 0) KX G c hsy
    have e : (HandSHeadRun.topDef K10.R.prog 18).name = PySem.Str.ofString "law" := by kernel_rfl
    exact ⟨K, f, fd, _, KX, fun base _ _ => e ▸ hF base, hb⟩
