import PyProof.Rows.All
import Lean
import Wide.All
import OpenK.AllK
import Wide.FinOn
import HandS.ForExc
import HandS.Lambda
import HandS.EndTab
import HandS.ForMost
import HandS.CallSlots
import HandS.Flow
import HandS.Style
import HandS.IsInst
import HandS.Deep
import HandS.TupAny
import HandS.TryOnly
import HandS.TupMul
import HandS.Conv
import HandS.Zip
import HandS.TupSets
import HandS.NoneIn
import PyProof.Rows.IntBool
import KE.SortData
import HandS.Remove
import HandS.SetFor
import HandS.Defaults
import HandS.ExcCtx
import HandS.ExcOwn
import HandS.RaiseMore
import KE.KRevSl
import HandS.HotCalls
import HandS.Hot
import HandS.Iter
import HandS.Text
import HandS.ExcIs
import HandS.ExcInitHot
import HandS.HeadHook4
import KE.KStateDown
import HandS.Ends
import HandS.More
import HandS.Words
import HandS.WordsExc
import HandS.Head0
import HandS.Head1
import HandS.Head2
import HandS.HeadEnd
import HandS.HeadHook1
import HandS.HeadHook2
import HandS.HeadHook3
import HandS.HeadWalk
import PySem.Challenge.RW_secondround_k01_webs_known
set_option Elab.async false
set_option linter.all false
set_option maxRecDepth 100000
set_option maxHeartbeats 4000000
/-! E1: data trees, what stands for them, environments, the results of pure functions. -/
namespace EL
open PySem PySem.Spec PyProof.Rows L2

/-- data as trees -/
inductive D where
  | non | bl (b : Bool) | int (i : Int) | str (x : Str) | tup (xs : List D) | lst (xs : List D) | ins (c : String) (fs : List (Str × D)) | ref (a : Addr)
  deriving Inhabited
/-- addresses to keep off; those among them that may be written -/
structure AS where
  av : Addr → Prop
  wr : Addr → Prop
  sub : ∀ a, wr a → av a
def AS.nil : AS := ⟨fun _ => False, fun _ => False, fun _ h => h⟩
/-- p, too, is kept off -/
def AS.hide (O : AS) (p : Addr) : AS := ⟨fun b => O.av b ∨ b = p, O.wr, fun a h => .inl (O.sub a h)⟩
/-- p, too, is kept off, and may be written -/
def AS.own (O : AS) (p : Addr) : AS := ⟨fun b => O.av b ∨ b = p, fun b => O.wr b ∨ b = p, fun a h => h.elim (fun h => .inl (O.sub a h)) .inr⟩
/-- a list that may be read; one that is tracked is none of O's -/
def SqF (K : PySem.W.Frag) (O : AS) (H : Hp) (a : Addr) (xs : List V) : Prop :=
  (Rd H a (.lst xs) ∧ ¬ O.av a) ∨
    ∃ (o : Obj) (its : Array Value) (n : Nat), K.lookup a = some o ∧ o.cls = .type "list" ∧ o.dict = none ∧ o.data = .seq its n ∧ its.size ≤ sizeLine ∧ Vals xs its.toList
theorem SqF.sq {K O H a xs} (h : SqF K O H a xs) : SqL K H a xs := h.elim (fun h => .inl h.1) .inr

mutual
inductive Rp (K : PySem.W.Frag) (cv : String → Value) (O : AS) (H : Hp) : V → D → Prop
  | non : Rp K cv O H .non .non
  | bl (b : Bool) : Rp K cv O H (.bl b) (.bl b)
  | int (i : Int) : Rp K cv O H (.int i) (.int i)
  | str (x : Str) : Rp K cv O H (.str x) (.str x)
  | ref (a : Addr) : Rp K cv O H (.ref a) (.ref a)
  | tup {a : Addr} {xs : List V} {ds : List D} : SqT K H a xs → RpA K cv O H xs ds → Rp K cv O H (.ref a) (.tup ds)
  | lst {a : Addr} {xs : List V} {ds : List D} : SqF K O H a xs → RpA K cv O H xs ds → Rp K cv O H (.ref a) (.lst ds)
  | ins {a C dx : Addr} {c : String} {vs : List (Str × V)} {fs : List (Str × D)} : cv c = .ref C → H a = some (.ins C dx vs) → ¬ O.av a → RpF K cv O H vs fs → Rp K cv O H (.ref a) (.ins c fs)
inductive RpA (K : PySem.W.Frag) (cv : String → Value) (O : AS) (H : Hp) : List V → List D → Prop
  | nil : RpA K cv O H [] []
  | cons {v : V} {vs : List V} {d : D} {ds : List D} : Rp K cv O H v d → RpA K cv O H vs ds → RpA K cv O H (v :: vs) (d :: ds)
inductive RpF (K : PySem.W.Frag) (cv : String → Value) (O : AS) (H : Hp) : List (Str × V) → List (Str × D) → Prop
  | nil : RpF K cv O H [] []
  | cons {f : Str} {v : V} {vs : List (Str × V)} {d : D} {ds : List (Str × D)} : Rp K cv O H v d → RpF K cv O H vs ds → RpF K cv O H ((f, v) :: vs) ((f, d) :: ds)
end

/-- from H to H': all but O's stands -/
structure EX (O : AS) (H H' : Hp) : Prop where
  keep : ∀ b o, H b = some o → ¬ O.wr b → (∀ ps, o ≠ .tbl ps) → H' b = some o
  tups : ∀ b xs, H b = some (.tup xs) → H' b = some (.tup xs)
  frzs : ∀ b o u, H b = some (.frz o u) → H' b = some (.frz o u)
  dom : ∀ b, H b ≠ none → H' b ≠ none
theorem EX.refl (O : AS) (H : Hp) : EX O H H := ⟨fun _ _ h _ _ => h, fun _ _ h => h, fun _ _ _ h => h, fun _ h => h⟩
theorem EX.trans {O : AS} {H H1 H2 : Hp} (a : EX O H H1) (b : EX O H1 H2) : EX O H H2 :=
  ⟨fun c o h n t => b.keep c o (a.keep c o h n t) n t, fun c xs h => b.tups c xs (a.tups c xs h), fun c o u h => b.frzs c o u (a.frzs c o u h), fun c h => b.dom c (a.dom c h)⟩
theorem EX.mono {O O' : AS} {H H' : Hp} (a : EX O H H') (h : ∀ b, O.wr b → O'.wr b) : EX O' H H' :=
  ⟨fun b o e n t => a.keep b o e (fun z => n (h b z)) t, a.tups, a.frzs, a.dom⟩
theorem EX.same {O : AS} {H H' : Hp} (s : ∀ b o, H b = some o → H' b = some o) : EX O H H' :=
  ⟨fun b o e _ _ => s b o e, fun b xs e => s b _ e, fun b o u e => s b _ e, fun b e => by
    cases q : H b with
    | none => exact absurd q e
    | some o => rw [s b o q]; simp⟩
theorem EX.new {O : AS} {H : Hp} {p : Addr} {o : HO} (h : H p = none) : EX O H (upd H p o) := EX.same fun b u e => by
  rw [upd_ne (ne_of_none e h)]; exact e
/-- a list, a dict, an instance of O's is written -/
theorem EX.own {O : AS} {H : Hp} {p : Addr} {o u : HO} (hp : O.wr p) (h : H p = some o) (hm : (∀ xs, o ≠ .tup xs) ∧ (∀ b v, o ≠ .frz b v)) : EX O H (upd H p u) := by
  refine ⟨fun b v e n _ => ?_, fun b xs e => ?_, fun b v w e => ?_, fun b e => ?_⟩
  · rw [upd_ne (fun z => n (by rw [z]; exact hp))]; exact e
  · rw [upd_ne (fun z => hm.1 xs (by rw [z, h] at e; exact Option.some.inj e))]; exact e
  · rw [upd_ne (fun z => hm.2 v w (by rw [z, h] at e; exact Option.some.inj e))]; exact e
  · by_cases z : b = p
    · rw [z, upd_same]; simp
    · rw [upd_ne z]; exact e

section
variable {K : PySem.W.Frag} {cv : String → Value} {O O' : AS} {H H' : Hp}
theorem SqT.ex (e : EX O H H') {a xs} (h : SqT K H a xs) : SqT K H' a xs := by
  rcases h with (h | ⟨o, h⟩) | h
  · exact .inl (.inl (e.tups _ _ h))
  · exact .inl (.inr ⟨o, e.frzs _ _ _ h⟩)
  · exact .inr h
theorem SqF.ex (e : EX O H H') {a xs} (h : SqF K O H a xs) : SqF K O H' a xs := by
  rcases h with ⟨h | ⟨o, h⟩, n⟩ | h
  · exact .inl ⟨.inl (e.keep _ _ h (fun z => n (O.sub _ z)) (fun ps z => by cases z)), n⟩
  · exact .inl ⟨.inr ⟨o, e.frzs _ _ _ h⟩, n⟩
  · exact .inr h
mutual
theorem Rp.ex (e : EX O H H') : ∀ {v : V} {d : D}, Rp K cv O H v d → Rp K cv O H' v d
  | _, _, .non => .non
  | _, _, .bl b => .bl b
  | _, _, .int i => .int i
  | _, _, .str x => .str x
  | _, _, .ref a => .ref a
  | _, _, .tup h r => .tup (SqT.ex e h) (RpA.ex e r)
  | _, _, .lst h r => .lst (h.ex e) (RpA.ex e r)
  | _, _, .ins c h n r => .ins c (e.keep _ _ h (fun z => n (O.sub _ z)) (fun ps z => by cases z)) n (RpF.ex e r)
theorem RpA.ex (e : EX O H H') : ∀ {vs : List V} {ds : List D}, RpA K cv O H vs ds → RpA K cv O H' vs ds
  | _, _, .nil => .nil
  | _, _, .cons h r => .cons (Rp.ex e h) (RpA.ex e r)
theorem RpF.ex (e : EX O H H') : ∀ {vs : List (Str × V)} {ds : List (Str × D)}, RpF K cv O H vs ds → RpF K cv O H' vs ds
  | _, _, .nil => .nil
  | _, _, .cons h r => .cons (Rp.ex e h) (RpF.ex e r)
end
theorem SqF.less (h : ∀ a, O'.av a → O.av a) {a xs} (r : SqF K O H a xs) : SqF K O' H a xs := by
  rcases r with ⟨r, n⟩ | r
  · exact .inl ⟨r, fun z => n (h a z)⟩
  · exact .inr r
mutual
theorem Rp.less (h : ∀ a, O'.av a → O.av a) : ∀ {v : V} {d : D}, Rp K cv O H v d → Rp K cv O' H v d
  | _, _, .non => .non
  | _, _, .bl b => .bl b
  | _, _, .int i => .int i
  | _, _, .str x => .str x
  | _, _, .ref a => .ref a
  | _, _, .tup q r => .tup q (RpA.less h r)
  | _, _, .lst q r => .lst (q.less h) (RpA.less h r)
  | _, _, .ins c q n r => .ins c q (fun z => n (h _ z)) (RpF.less h r)
theorem RpA.less (h : ∀ a, O'.av a → O.av a) : ∀ {vs : List V} {ds : List D}, RpA K cv O H vs ds → RpA K cv O' H vs ds
  | _, _, .nil => .nil
  | _, _, .cons q r => .cons (Rp.less h q) (RpA.less h r)
theorem RpF.less (h : ∀ a, O'.av a → O.av a) : ∀ {vs : List (Str × V)} {ds : List (Str × D)}, RpF K cv O H vs ds → RpF K cv O' H vs ds
  | _, _, .nil => .nil
  | _, _, .cons q r => .cons (Rp.less h q) (RpF.less h r)
end
/-- what is not tracked yet is not met -/
theorem SqF.more {p : Addr} (hp : H p = none) {a xs} (r : SqF K O H a xs) : SqF K (O.hide p) H a xs := by
  rcases r with ⟨r, n⟩ | r
  · refine .inl ⟨r, fun z => z.elim n fun z => ?_⟩
    subst z
    rcases r with r | ⟨o, r⟩ <;> rw [hp] at r <;> cases r
  · exact .inr r
mutual
theorem Rp.more {p : Addr} (hp : H p = none) : ∀ {v : V} {d : D}, Rp K cv O H v d → Rp K cv (O.hide p) H v d
  | _, _, .non => .non
  | _, _, .bl b => .bl b
  | _, _, .int i => .int i
  | _, _, .str x => .str x
  | _, _, .ref a => .ref a
  | _, _, .tup q r => .tup q (RpA.more hp r)
  | _, _, .lst q r => .lst (q.more hp) (RpA.more hp r)
  | _, _, .ins c q n r => .ins c q (fun z => z.elim n fun z => by subst z; rw [hp] at q; cases q) (RpF.more hp r)
theorem RpA.more {p : Addr} (hp : H p = none) : ∀ {vs : List V} {ds : List D}, RpA K cv O H vs ds → RpA K cv (O.hide p) H vs ds
  | _, _, .nil => .nil
  | _, _, .cons q r => .cons (Rp.more hp q) (RpA.more hp r)
theorem RpF.more {p : Addr} (hp : H p = none) : ∀ {vs : List (Str × V)} {ds : List (Str × D)}, RpF K cv O H vs ds → RpF K cv (O.hide p) H vs ds
  | _, _, .nil => .nil
  | _, _, .cons q r => .cons (Rp.more hp q) (RpF.more hp r)
end
theorem RpA.len : ∀ {vs : List V} {ds : List D}, RpA K cv O H vs ds → vs.length = ds.length
  | _, _, .nil => rfl
  | _, _, .cons _ r => by simp [RpA.len r]
theorem RpA.get : ∀ {vs : List V} {ds : List D} {i : Nat} {d : D}, RpA K cv O H vs ds → ds[i]? = some d → ∃ v, vs[i]? = some v ∧ Rp K cv O H v d
  | _, _, _, _, .nil, e => by simp at e
  | _, _, 0, _, .cons h _, e => by simp at e; subst e; exact ⟨_, rfl, h⟩
  | _, _, i + 1, d, .cons _ r, e => by
    obtain ⟨v, h1, h2⟩ := RpA.get (i := i) (d := d) r (by simpa using e)
    exact ⟨v, by simpa using h1, h2⟩
theorem RpA.get' : ∀ {vs : List V} {ds : List D} {i : Nat} {v : V}, RpA K cv O H vs ds → vs[i]? = some v → ∃ d, ds[i]? = some d ∧ Rp K cv O H v d
  | _, _, _, _, .nil, e => by simp at e
  | _, _, 0, _, .cons h _, e => by simp at e; subst e; exact ⟨_, rfl, h⟩
  | _, _, i + 1, v, .cons _ r, e => by
    obtain ⟨d, h1, h2⟩ := RpA.get' (i := i) (v := v) r (by simpa using e)
    exact ⟨d, by simpa using h1, h2⟩
theorem RpA.append : ∀ {vs ws : List V} {ds es : List D}, RpA K cv O H vs ds → RpA K cv O H ws es → RpA K cv O H (vs ++ ws) (ds ++ es)
  | _, _, _, _, .nil, s => s
  | _, _, _, _, .cons h r, s => .cons h (RpA.append r s)
theorem RpA.take : ∀ {vs : List V} {ds : List D} (n : Nat), RpA K cv O H vs ds → RpA K cv O H (vs.take n) (ds.take n)
  | _, _, 0, _ => .nil
  | _, _, _ + 1, .nil => .nil
  | _, _, n + 1, .cons h r => .cons h (RpA.take n r)
theorem RpA.drop : ∀ {vs : List V} {ds : List D} (n : Nat), RpA K cv O H vs ds → RpA K cv O H (vs.drop n) (ds.drop n)
  | _, _, 0, r => r
  | _, _, _ + 1, .nil => .nil
  | _, _, n + 1, .cons _ r => RpA.drop n r
theorem RpA.set : ∀ {vs : List V} {ds : List D} {v : V} {d : D} (n : Nat), RpA K cv O H vs ds → Rp K cv O H v d → RpA K cv O H (vs.set n v) (ds.set n d)
  | _, _, _, _, _, .nil, _ => .nil
  | _, _, _, _, 0, .cons _ r, q => .cons q r
  | _, _, _, _, n + 1, .cons h r, q => .cons h (RpA.set n r q)
theorem RpA.eraseIdx : ∀ {vs : List V} {ds : List D} (n : Nat), RpA K cv O H vs ds → RpA K cv O H (vs.eraseIdx n) (ds.eraseIdx n)
  | _, _, _, .nil => .nil
  | _, _, 0, .cons _ r => r
  | _, _, n + 1, .cons h r => .cons h (RpA.eraseIdx n r)
theorem RpA.reverse {vs : List V} {ds : List D} (r : RpA K cv O H vs ds) : RpA K cv O H vs.reverse ds.reverse := by
  induction r using RpA.rec (motive_1 := fun _ _ _ => True) (motive_3 := fun _ _ _ => True) with
  | nil => exact .nil
  | cons h r _ ih => rw [List.reverse_cons, List.reverse_cons]; exact ih.append (.cons h .nil)
  | _ => trivial
theorem RpA.rep {vs : List V} {ds : List D} (r : RpA K cv O H vs ds) : ∀ k : Nat, RpA K cv O H (List.replicate k vs).flatten (List.replicate k ds).flatten
  | 0 => .nil
  | k + 1 => by rw [List.replicate_succ, List.replicate_succ, List.flatten_cons, List.flatten_cons]; exact r.append (r.rep k)
theorem RpF.lookup : ∀ {vs : List (Str × V)} {fs : List (Str × D)} {f : Str} {d : D}, RpF K cv O H vs fs → fs.lookup f = some d → ∃ v, vs.lookup f = some v ∧ Rp K cv O H v d
  | _, _, _, _, .nil, e => by simp at e
  | _, _, f, d, .cons (f := g) h r, e => by
    rw [List.lookup_cons] at e
    rw [List.lookup_cons]
    cases q : (f == g) with
    | true => rw [q] at e; cases e; exact ⟨_, rfl, h⟩
    | false => rw [q] at e; exact RpF.lookup r e
theorem RpF.none : ∀ {vs : List (Str × V)} {fs : List (Str × D)} {f : Str}, RpF K cv O H vs fs → fs.lookup f = none → vs.lookup f = none
  | _, _, _, .nil, _ => rfl
  | _, _, f, .cons (f := g) h r, e => by
    rw [List.lookup_cons] at e
    rw [List.lookup_cons]
    cases q : (f == g) with
    | true => rw [q] at e; cases e
    | false => rw [q] at e; exact RpF.none r e
end
end EL

/-! E2: environments, judgements. -/
namespace EL
open PySem PySem.Spec PyProof.Rows L2

/-- what a name owns: a list, a dict, an instance, changed through this name alone -/
inductive OD where
  | lst (xs : List D) | dk (kvs : List (Key × D)) | dt (kvs : List (List Key × D)) | ins (c : String) (fs : List (Str × D))
  deriving Inhabited
inductive Slot where
  | un | val (d : D) | own (io : Bool) (o : OD)
  deriving Inhabited
/-- the answer of an expression: data, or what stands in a slot -/
inductive Rv where
  | val (d : D) | slot (i : Nat)
  deriving Inhabited
abbrev Env := List Slot
inductive Out (α : Type) where
  | ok (a : α) (ρ : Env) | err (c : String) (ρ : Env) | bad
def Out.bind {α β : Type} (r : Out α) (f : α → Env → Out β) : Out β := match r with
  | .ok a ρ => f a ρ
  | .err c ρ => .err c ρ
  | .bad => .bad
@[simp] theorem Out.bind_ok {α β : Type} (a : α) (ρ : Env) (f : α → Env → Out β) : (Out.ok a ρ).bind f = f a ρ := rfl
@[simp] theorem Out.bind_err {α β : Type} (c : String) (ρ : Env) (f : α → Env → Out β) : (Out.err (α := α) c ρ).bind f = .err c ρ := rfl
@[simp] theorem Out.bind_bad {α β : Type} (f : α → Env → Out β) : (Out.bad (α := α)).bind f = .bad := rfl
/-- none: not served -/
def Out.of {α : Type} (o : Option α) (ρ : Env) : Out α := match o with
  | some a => .ok a ρ
  | none => .bad
@[simp] theorem Out.of_some {α : Type} (a : α) (ρ : Env) : Out.of (some a) ρ = .ok a ρ := rfl
@[simp] theorem Out.of_none {α : Type} (ρ : Env) : Out.of (none : Option α) ρ = .bad := rfl
def ownD : OD → Option D
  | .lst xs => some (.lst xs)
  | .ins c fs => some (.ins c fs)
  | _ => none
def deref (r : Rv) (ρ : Env) : Option D := match r with
  | .val d => some d
  | .slot i => match ρ[i]? with
    | some (.own _ o) => ownD o
    | _ => none
@[simp] theorem deref_val (d : D) (ρ : Env) : deref (.val d) ρ = some d := rfl
def Rv.store : Rv → Option D
  | .val d => some d
  | .slot _ => none
@[simp] theorem store_val (d : D) : Rv.store (.val d) = some d := rfl
@[simp] theorem store_slot (i : Nat) : Rv.store (.slot i) = none := rfl

/-- the ground of a def's run: K, the classes of errors, tables; the callers' own addresses O0, the heap at the entry -/
structure Gr where
  K : PySem.W.Frag
  cv : String → Value
  T : List (Addr × Str)
  O0 : AS
  He : Hp
  io : Nat → Option Addr
abbrev R0 (G : Gr) (H : Hp) : V → D → Prop := Rp G.K G.cv AS.nil H
def OR (G : Gr) (O : AS) (H : Hp) (a : Addr) : OD → Prop
  | .lst xs => ∃ us, H a = some (.lst us) ∧ RpA G.K G.cv O H us xs
  | .dk kvs => ∃ ks, H a = some (.dK ks) ∧ ks.map (·.1) = kvs.map (·.1) ∧ RpA G.K G.cv O H (ks.map (·.2)) (kvs.map (·.2))
  | .dt kvs => ∃ ks, H a = some (.dT ks) ∧ ks.map (·.1) = kvs.map (·.1) ∧ RpA G.K G.cv O H (ks.map (·.2)) (kvs.map (·.2))
  | .ins c fs => ∃ C dx vs, G.cv c = .ref C ∧ H a = some (.ins C dx vs) ∧ RpF G.K G.cv O H vs fs
def SlotR (G : Gr) (O : AS) (σ : L2.St) (H : Hp) (i : Nat) : Slot → Prop
  | .un => True
  | .val d => ∃ v, σ[i]? = some (some v) ∧ Rp G.K G.cv O H v d
  | .own io o => ∃ a, σ[i]? = some (some (.ref a)) ∧ OR G O H a o ∧ O.wr a ∧ (if io = true then G.io i = some a ∧ G.O0.wr a else G.He a = none)
structure ER (G : Gr) (O : AS) (σ : L2.St) (H : Hp) (ρ : Env) : Prop where
  len : ρ.length = σ.length
  sub : ∀ a, G.O0.av a → O.av a
  wsub : ∀ a, G.O0.wr a → O.wr a
  odom : ∀ a, G.O0.av a → G.He a ≠ none
  dom : ∀ a, O.av a → H a ≠ none
  ext : EX G.O0 G.He H
  tabs : LamX.Tabs G.T H
  slot : ∀ (i : Nat) (s : Slot), ρ[i]? = some s → SlotR G O σ H i s
  inj : ∀ (i j : Nat) (a : Addr) (io io' : Bool) (o o' : OD), ρ[i]? = some (.own io o) → ρ[j]? = some (.own io' o') → σ[i]? = some (some (.ref a)) → σ[j]? = some (some (.ref a)) → i = j
def RvR (G : Gr) (O : AS) (σ : L2.St) (H : Hp) (v : V) : Rv → Prop
  | .val d => Rp G.K G.cv O H v d
  | .slot i => σ[i]? = some (some v)
inductive RvA (G : Gr) (O : AS) (σ : L2.St) (H : Hp) : List V → List Rv → Prop
  | nil : RvA G O σ H [] []
  | cons {v : V} {vs : List V} {r : Rv} {rs : List Rv} : RvR G O σ H v r → RvA G O σ H vs rs → RvA G O σ H (v :: vs) (r :: rs)

/-- the tables and the rest -/
structure EXT (G : Gr) (O : AS) (H H' : Hp) : Prop where
  ex : EX O H H'
  tabs : LamX.Tabs G.T H → LamX.Tabs G.T H'

section
variable {G : Gr} {O : AS} {σ : L2.St} {H H' : Hp} {ρ : Env}
theorem R0.of {v d} (r : Rp G.K G.cv O H v d) : R0 G H v d := r.less (O' := AS.nil) fun _ z => False.elim z
theorem deref_rd (E : ER G O σ H ρ) {v : V} {r : Rv} {d : D} (h : RvR G O σ H v r) (e : deref r ρ = some d) : R0 G H v d := by
  cases r with
  | val d' => cases e; exact R0.of h
  | slot i =>
    have h : σ[i]? = some (some v) := h
    have e : (match ρ[i]? with | some (.own _ o) => ownD o | _ => none) = some d := e
    cases q : ρ[i]? with
    | none => rw [q] at e; cases e
    | some s =>
      rw [q] at e
      cases s with
      | un => cases e
      | val _ => cases e
      | own io o =>
        obtain ⟨a, h1, h2, _, _⟩ := E.slot i _ q
        rw [h] at h1
        cases h1
        cases o with
        | lst xs => cases e; obtain ⟨us, u1, u2⟩ := h2; exact .lst (.inl ⟨.inl u1, fun z => z⟩) (u2.less fun _ z => False.elim z)
        | ins c fs => cases e; obtain ⟨C, dx, vs, c1, u1, u2⟩ := h2; exact .ins c1 u1 (fun z => z) (u2.less fun _ z => False.elim z)
        | dk _ => cases e
        | dt _ => cases e
theorem RvR.ex {v r} (e : EX O H H') (h : RvR G O σ H v r) : RvR G O σ H' v r := by
  cases r with
  | val d => exact Rp.ex e h
  | slot i => exact h
theorem RvA.ex {vs rs} (e : EX O H H') (h : RvA G O σ H vs rs) : RvA G O σ H' vs rs := by
  induction h with
  | nil => exact .nil
  | cons h _ ih => exact .cons (h.ex e) ih
theorem RvA.get {vs : List V} {rs : List Rv} (h : RvA G O σ H vs rs) : ∀ {i : Nat} {r : Rv}, rs[i]? = some r → ∃ v, vs[i]? = some v ∧ RvR G O σ H v r := by
  induction h with
  | nil => intro i r e; simp at e
  | cons h _ ih =>
    intro i r e
    cases i with
    | zero => simp at e; subst e; exact ⟨_, rfl, h⟩
    | succ i => simpa using ih (by simpa using e)
def storeAll : List Rv → Option (List D)
  | [] => some []
  | r :: rs => match r.store, storeAll rs with
    | some d, some ds => some (d :: ds)
    | _, _ => none
@[simp] theorem storeAll_nil : storeAll [] = some [] := rfl
@[simp] theorem storeAll_val (d : D) (rs : List Rv) : storeAll (.val d :: rs) = (storeAll rs).map (d :: ·) := by
  show (match some d, storeAll rs with | some d, some ds => some (d :: ds) | _, _ => none) = _
  cases storeAll rs <;> rfl
theorem RvA.all {vs rs} (h : RvA G O σ H vs rs) : ∀ {ds}, storeAll rs = some ds → RpA G.K G.cv O H vs ds := by
  induction h with
  | nil => intro ds e; cases e; exact .nil
  | @cons v vs r rs h _ ih =>
    intro ds e
    cases r with
    | slot i => cases e
    | val d =>
      rw [storeAll_val] at e
      cases q : storeAll rs with
      | none => rw [q] at e; cases e
      | some es => rw [q] at e; cases e; exact .cons h (ih q)
/-- all that was tracked stands: the environment stands -/
theorem ER.same (E : ER G O σ H ρ) (s : ∀ b o, H b = some o → H' b = some o) : ER G O σ H' ρ := by
  have e : EX O H H' := EX.same s
  refine ⟨E.len, E.sub, E.wsub, E.odom, fun a h => e.dom a (E.dom a h), E.ext.trans (EX.same s), E.tabs.ext s, fun i sl h => ?_, E.inj⟩
  have q := E.slot i sl h
  cases sl with
  | un => trivial
  | val d => obtain ⟨v, h1, h2⟩ := q; exact ⟨v, h1, h2.ex e⟩
  | own io o =>
    obtain ⟨a, h1, h2, h3, h4⟩ := q
    refine ⟨a, h1, ?_, h3, h4⟩
    cases o with
    | lst xs => obtain ⟨us, u1, u2⟩ := h2; exact ⟨us, s _ _ u1, u2.ex e⟩
    | dk kvs => obtain ⟨us, u1, u2, u3⟩ := h2; exact ⟨us, s _ _ u1, u2, u3.ex e⟩
    | dt kvs => obtain ⟨us, u1, u2, u3⟩ := h2; exact ⟨us, s _ _ u1, u2, u3.ex e⟩
    | ins c fs => obtain ⟨C, dx, us, c1, u1, u2⟩ := h2; exact ⟨C, dx, us, c1, s _ _ u1, u2.ex e⟩
theorem ER.new (E : ER G O σ H ρ) {p : Addr} {o : HO} (h : H p = none) : ER G O σ (upd H p o) ρ := E.same fun b u e => by
  rw [upd_ne (ne_of_none e h)]; exact e
end

/-- the dict of an error of class c: none but for one class -/
abbrev DD (c : String) : Type := {d : Option Addr // c = "TooMany" ∨ d = none}
/-! ### what an expression answers -/
abbrev Rl (ν α : Type) := Gr → AS → L2.St → Hp → ν → α → Prop
def RvT : Rl Bool Bool := fun _ _ _ _ v a => v = a
def ans {ν α : Type} (R : Rl ν α) (G : Gr) (O : AS) (W : WX) (σ : L2.St) (H : Hp) (r : Out α) (Q : ν → Hp → Prop) : Prop := match r with
  | .ok a ρ' => ∀ v H', ER G O σ H' ρ' → EX O H H' → R G O σ H' v a → Q v H'
  | .err c ρ' => ∀ (dd : DD c) H', ER G O σ H' ρ' → EX O H H' → W (G.cv c) dd.1 σ H'
  | .bad => False
def tr {ν α : Type} (R : Rl ν α) (G : Gr) (W : WX) (f : Env → Out α) : L2.St → Hp → (ν → Hp → Prop) → Prop := fun σ H Q => ∃ O ρ, ER G O σ H ρ ∧ ans R G O W σ H (f ρ) Q
abbrev Ev (X : Cx) (G : Gr) (W : WX) (e : Expr) (f : Env → Out Rv) : Prop := PE X e (tr RvR G W f)
abbrev Tv (X : Cx) (G : Gr) (W : WX) (e : Expr) (f : Env → Out Bool) : Prop := PT X e (tr RvT G W f)
abbrev Av (X : Cx) (G : Gr) (W : WX) (es : List Expr) (f : Env → Out (List Rv)) : Prop := PA X es (tr RvA G W f)
theorem PEw_ {X : Cx} {e : Expr} {t t' : TE} (h : PE X e t) (w : ∀ σ H Q, t' σ H Q → t σ H Q) : PE X e t' := ⟨fun pins s σ H Q I q => h.run pins s σ H Q I (w σ H Q q)⟩
theorem PTw_ {X : Cx} {e : Expr} {t t' : TT} (h : PT X e t) (w : ∀ σ H Q, t' σ H Q → t σ H Q) : PT X e t' := ⟨fun pins s σ H Q I q => h.run pins s σ H Q I (w σ H Q q)⟩
theorem PWw_ {X : Cx} {e : Expr} {t t' : TT} (h : PW X e t) (w : ∀ σ H Q, t' σ H Q → t σ H Q) : PW X e t' := ⟨fun wh pins s σ H Q I q => h.run wh pins s σ H Q I (w σ H Q q)⟩
theorem PAw_ {X : Cx} {e : List Expr} {t t' : TA} (h : PA X e t) (w : ∀ σ H Q, t' σ H Q → t σ H Q) : PA X e t' := ⟨fun pos pins s σ H Q I q => h.run pos pins s σ H Q I (w σ H Q q)⟩
theorem PSw_ {X : Cx} {e : Stmt} {t t' : TS} (h : PS X e t) (w : ∀ D σ H, t' D σ H → t D σ H) : PS X e t' := ⟨fun pins s σ H D I q => h.run pins s σ H D I (w D σ H q)⟩
theorem PSsw_ {X : Cx} {e : List Stmt} {t t' : TS} (h : PSs X e t) (w : ∀ D σ H, t' D σ H → t D σ H) : PSs X e t' := ⟨fun pins s σ H D I q => h.run pins s σ H D I (w D σ H q)⟩

section
variable {G : Gr} {O : AS} {W : WX} {σ : L2.St} {H : Hp} {ρ : Env} {ν μ α β : Type} {R1 : Rl ν α} {R2 : Rl μ β}
theorem ans_ex {r : Out α} {Q : ν → Hp → Prop} {H1 : Hp} (e : EX O H H1) (a : ans R1 G O W σ H r Q) : ans R1 G O W σ H1 r Q := by
  cases r with
  | ok v ρ' => exact fun v2 H2 E2 e2 r2 => a v2 H2 E2 (e.trans e2) r2
  | err c ρ' => exact fun dd H2 E2 e2 => a dd H2 E2 (e.trans e2)
  | bad => exact a
/-- first f, then g -/
theorem ans_in {f : Out α} {g : α → Env → Out β} {Q : μ → Hp → Prop} {R : ν → Hp → Prop}
    (a : ans R2 G O W σ H (f.bind g) Q) (h : ∀ rv ρ' v H', ER G O σ H' ρ' → EX O H H' → R1 G O σ H' v rv → ans R2 G O W σ H' (g rv ρ') Q → R v H') : ans R1 G O W σ H f R := by
  cases f with
  | ok rv ρ' => exact fun v H' E' e' r' => h rv ρ' v H' E' e' r' (ans_ex e' a)
  | err c ρ' => exact a
  | bad => exact a
theorem ans_imp {r : Out α} {Q R : ν → Hp → Prop} (a : ans R1 G O W σ H r Q) (h : ∀ v H', Q v H' → R v H') : ans R1 G O W σ H r R := by
  cases r with
  | ok v ρ' => exact fun v2 H2 E2 e2 r2 => h _ _ (a v2 H2 E2 e2 r2)
  | err c ρ' => exact a
  | bad => exact a
/-- an answer at the heap as it is -/
theorem ans_ok {a : α} {ρ' : Env} {Q : ν → Hp → Prop} (h : ans R1 G O W σ H (.ok a ρ') Q) {v : ν} {H' : Hp} (E : ER G O σ H' ρ') (e : EX O H H') (r : R1 G O σ H' v a) : Q v H' := h v H' E e r
theorem ans_of {o : Option α} {ρ' : Env} {Q : ν → Hp → Prop} (h : ans R1 G O W σ H (Out.of o ρ') Q) : ∃ a, o = some a ∧ ans R1 G O W σ H (.ok a ρ') Q := by
  cases o with
  | none => exact h.elim
  | some a => exact ⟨a, rfl, h⟩
end
end EL

/-! E3: names, constants, operators by values. -/
namespace EL
open PySem PySem.Spec PyProof.Rows L2

/-- read: a list's items, an instance's fields as they are stored -/
def Rs (G : Gr) (O : AS) (H : Hp) (v : V) (d : D) : Prop := match d with
  | .lst xs => ∃ a us, v = .ref a ∧ SqL G.K H a us ∧ RpA G.K G.cv O H us xs
  | .ins c fs => ∃ a C dx vs, v = .ref a ∧ G.cv c = .ref C ∧ H a = some (.ins C dx vs) ∧ RpF G.K G.cv O H vs fs
  | d => Rp G.K G.cv O H v d
section
variable {G : Gr} {O : AS} {σ : L2.St} {H H' : Hp} {ρ : Env}
theorem Rs.of {v d} (h : Rp G.K G.cv O H v d) : Rs G O H v d := by
  cases h with
  | lst h r => exact ⟨_, _, rfl, h.sq, r⟩
  | ins c h n r => exact ⟨_, _, _, _, rfl, c, h, r⟩
  | non => exact .non
  | bl b => exact .bl b
  | int i => exact .int i
  | str x => exact .str x
  | ref a => exact .ref a
  | tup h r => exact .tup h r
theorem deref_rs (E : ER G O σ H ρ) {v : V} {r : Rv} {d : D} (h : RvR G O σ H v r) (e : deref r ρ = some d) : Rs G O H v d := by
  cases r with
  | val d' => cases e; exact Rs.of h
  | slot i =>
    have h : σ[i]? = some (some v) := h
    have e : (match ρ[i]? with | some (.own _ o) => ownD o | _ => none) = some d := e
    cases q : ρ[i]? with
    | none => rw [q] at e; cases e
    | some s =>
      rw [q] at e
      cases s with
      | un => cases e
      | val _ => cases e
      | own io o =>
        obtain ⟨a, h1, h2, _, _⟩ := E.slot i _ q
        rw [h] at h1
        cases h1
        cases o with
        | lst xs => cases e; obtain ⟨us, u1, u2⟩ := h2; exact ⟨_, _, rfl, SqL.of u1, u2⟩
        | ins c fs => cases e; obtain ⟨C, dx, vs, c1, u1, u2⟩ := h2; exact ⟨_, _, _, _, rfl, c1, u1, u2⟩
        | dk _ => cases e
        | dt _ => cases e
mutual
def toP : D → PyData
  | .non => .none
  | .bl b => .bool b
  | .int i => .int i
  | .str x => .str x
  | .tup xs => .tuple (toPs xs)
  | .lst xs => .list (toPs xs)
  | .ins _ _ => .none
  | .ref _ => .none
def toPs : List D → List PyData
  | [] => []
  | d :: ds => toP d :: toPs ds
end
mutual
def plain : D → Bool
  | .ins _ _ => false
  | .ref _ => false
  | .tup xs => plains xs
  | .lst xs => plains xs
  | _ => true
def plains : List D → Bool
  | [] => true
  | d :: ds => plain d && plains ds
end
theorem toPs_map : ∀ ds : List D, toPs ds = ds.map toP
  | [] => rfl
  | d :: ds => by simp [toPs, toPs_map ds]
theorem plains_all : ∀ ds : List D, plains ds = ds.all plain
  | [] => rfl
  | d :: ds => by simp [plains, plains_all ds]
mutual
theorem Rp.dp : ∀ {v : V} {d : D}, Rp G.K G.cv O H v d → plain d = true → Dp G.K H v (toP d)
  | _, _, .non, _ => .non
  | _, _, .bl b, _ => .bl b
  | _, _, .int i, _ => .int i
  | _, _, .str x, _ => .str x
  | _, _, .ref a, p => by simp [plain] at p
  | _, _, .tup h r, p => .tup h (RpA.dp r p)
  | _, _, .lst h r, p => .lst h.sq (RpA.dp r p)
  | _, _, .ins c h n r, p => by simp [plain] at p
theorem RpA.dp : ∀ {vs : List V} {ds : List D}, RpA G.K G.cv O H vs ds → plains ds = true → DpAll G.K H vs (toPs ds)
  | _, _, .nil, _ => .nil
  | _, _, .cons h r, p => by
    rw [plains, Bool.and_eq_true] at p
    exact .cons (Rp.dp h p.1) (RpA.dp r p.2)
end
theorem Rs.dp {v : V} {d : D} (h : Rs G O H v d) (p : plain d = true) : Dp G.K H v (toP d) := by
  cases d with
  | lst xs => obtain ⟨a, us, rfl, h1, h2⟩ := h; exact .lst h1 (h2.dp p)
  | ins c fs => simp [plain] at p
  | non => exact Rp.dp h p
  | bl b => exact Rp.dp h p
  | int i => exact Rp.dp h p
  | str x => exact Rp.dp h p
  | tup xs => exact Rp.dp h p
  | ref a => exact Rp.dp h p
end

/-! ### names, constants -/
section
variable {X : Cx} {G : Gr} {W : WX}
def eName (i : Nat) : Env → Out Rv := fun ρ => match ρ[i]? with
  | some (.val d) => .ok (.val d) ρ
  | some (.own _ _) => .ok (.slot i) ρ
  | _ => .bad
theorem ev_name (i : Nat) {x : Str} {pos : Pos} (hN : X.N[i]? = some x := by rfl) (hv : Vis X.env.scope x := by first | exact Or.inl rfl | exact Or.inr (Or.inl rfl) | exact Or.inr (Or.inr rfl)) (hd : (x == ("__debug__" : Str)) = false := by decide)
    (hcd : (x == ("__classdict__" : Str)) = false := by decide) : Ev X G W (.Name x pos) (eName i) := PEw_ (pe_var hN hv hd hcd) fun σ H Q ⟨O, ρ, E, a⟩ => by
  unfold eName at a
  cases q : ρ[i]? with
  | none => rw [q] at a; exact a.elim
  | some s =>
    rw [q] at a
    have sl := E.slot i s q
    cases s with
    | un => exact a.elim
    | val d => obtain ⟨v, h1, h2⟩ := sl; exact ⟨v, h1, ans_ok a E (EX.refl _ _) h2⟩
    | own io o => obtain ⟨b, h1, _⟩ := sl; exact ⟨_, h1, ans_ok a E (EX.refl _ _) h1⟩
def eK (d : D) : Env → Out Rv := fun ρ => .ok (.val d) ρ
theorem ev_int {i j pos} : Ev X G W (.Constant (.int i) j pos) (eK (.int i)) := PEw_ pe_int fun σ H Q ⟨O, ρ, E, a⟩ => ans_ok a E (EX.refl _ _) (Rp.int i)
theorem ev_bl {i j pos} : Ev X G W (.Constant (.bool i) j pos) (eK (.bl i)) := PEw_ pe_bl fun σ H Q ⟨O, ρ, E, a⟩ => ans_ok a E (EX.refl _ _) (Rp.bl i)
theorem ev_non {j pos} : Ev X G W (.Constant .none j pos) (eK .non) := PEw_ pe_non fun σ H Q ⟨O, ρ, E, a⟩ => ans_ok a E (EX.refl _ _) Rp.non
theorem ev_str {x j pos} : Ev X G W (.Constant (.str x) j pos) (eK (.str x)) := PEw_ pe_str fun σ H Q ⟨O, ρ, E, a⟩ => ans_ok a E (EX.refl _ _) (Rp.str x)
/-- a module's int -/
theorem ev_globI {x : Str} {i : Int} {t : Tok} {pos : Pos} (hg : Gl X x) (hm : X.mg x = some (.int i t)) (hd : (x == ("__debug__" : Str)) = false := by decide) : Ev X G W (.Name x pos) (eK (.int i)) :=
  PEw_ (pe_glob hg hm (v := .int i) ⟨t, rfl⟩ hd) fun σ H Q ⟨O, ρ, E, a⟩ => ans_ok a E (EX.refl _ _) (Rp.int i)

/-! ### operators by values -/
def OpG (G : Gr) (r : R2) (g : D → D → Option D) : Prop := ∀ (O : AS) (H : Hp) (x y : V) (d e z : D) (Q : VK), (∀ a, O.av a → H a ≠ none) → Rs G O H x d → Rs G O H y e → g d e = some z →
  (∀ v H', (∀ b o, H b = some o → H' b = some o) → Rp G.K G.cv O H' v z → Q v H') → r x y H Q
def ap2 (g : D → D → Option D) (x y : Rv) (ρ : Env) : Out Rv := match deref x ρ, deref y ρ with
  | some d, some e => Out.of ((g d e).map Rv.val) ρ
  | _, _ => .bad
@[simp] theorem ap2_val (g : D → D → Option D) (d e : D) (ρ : Env) : ap2 g (.val d) (.val e) ρ = Out.of ((g d e).map Rv.val) ρ := rfl
theorem ap2_some {g : D → D → Option D} {x y : Rv} {ρ : Env} {O W σ H Q} (h : ans RvR G O W σ H (ap2 g x y ρ) Q) : ∃ d e z, deref x ρ = some d ∧ deref y ρ = some e ∧ g d e = some z ∧ ans RvR G O W σ H (.ok (.val z) ρ) Q := by
  unfold ap2 at h
  cases h1 : deref x ρ with
  | none => rw [h1] at h; exact h.elim
  | some d =>
    cases h2 : deref y ρ with
    | none => rw [h1, h2] at h; exact h.elim
    | some e =>
      rw [h1, h2] at h
      obtain ⟨a, ha, q⟩ := ans_of h
      cases h3 : g d e with
      | none => rw [h3] at ha; cases ha
      | some z => rw [h3] at ha; cases ha; exact ⟨d, e, z, rfl, rfl, h3, q⟩
def eBin (g : D → D → Option D) (fa fb : Env → Out Rv) : Env → Out Rv := fun ρ => (fa ρ).bind fun x ρ1 => (fb ρ1).bind fun y ρ2 => ap2 g x y ρ2
/-- two values in a row, then an operation -/
theorem two_in {r : R2} {g : D → D → Option D} (hg : OpG G r g) {fa fb : Env → Out Rv} {σ : L2.St} {H : Hp} {O : AS} {ρ : Env} {Q : VK} (E : ER G O σ H ρ) (h : ans RvR G O W σ H (eBin g fa fb ρ) Q) :
    tr RvR G W fa σ H fun x H1 => tr RvR G W fb σ H1 fun y H2 => r x y H2 Q := by
  refine ⟨O, ρ, E, ans_in h fun x ρ1 v H1 E1 e1 r1 a1 => ⟨O, ρ1, E1, ans_in a1 fun y ρ2 u H2 E2 e2 r2 a2 => ?_⟩⟩
  obtain ⟨d, e, z, h1, h2, h3, a3⟩ := ap2_some a2
  refine hg O H2 v u d e z Q E2.dom (deref_rs E2 (r1.ex e2) h1) (deref_rs E2 r2 h2) h3 fun w H3 s r3 => ?_
  exact ans_ok a3 (E2.same s) (EX.same s) r3
theorem ev_bin {op : Operator} {r : R2} {g : D → D → Option D} {a b : Expr} {fa fb : Env → Out Rv} {pos : Pos} (ho : OpR X (binaryOp op) r) (hg : OpG G r g) (ha : Ev X G W a fa) (hb : Ev X G W b fb) : Ev X G W (.BinOp a op b pos) (eBin g fa fb) :=
  PEw_ (pe_op ho ha hb) fun σ H Q ⟨O, ρ, E, h⟩ => two_in hg E h
theorem ev_cmp {op : CmpOp} {r : R2} {g : D → D → Option D} {a b : Expr} {fa fb : Env → Out Rv} {pos : Pos} (ho : OpR X (compareOp op) r) (hg : OpG G r g) (ha : Ev X G W a fa) (hb : Ev X G W b fb) (hm : behindInMarks op b = false) : Ev X G W (.Compare a [op] [b] pos) (eBin g fa fb) :=
  PEw_ (pe_cmpR ho ha hb hm) fun σ H Q ⟨O, ρ, E, h⟩ => two_in hg E h
end
end EL

/-! E4: the operators on data. -/
namespace EL
open PySem PySem.Spec PyProof.Rows L2

/-! ### lists of any standing -/
theorem list_mulW (l : Addr) (items : Array Value) (n : Nat) (dd : Option Addr) (sl : Array (Option Value)) (x : Int) (u : Tok) (hc0 : ¬(!Builtin.List.listFitsIndex x) = true) (hc1 : ¬items.size * x.toNat > (2 ^ 63 - 1) / 8) (hc2 : ¬Builtin.List.listTooLong (items.size * x.toNat) = true)
    (hsz : (List.foldl (fun x1 x2 => x1 ++ x2) #[] (List.replicate (if items.isEmpty = true then 0 else x.toNat) items)).size ≤ sizeLine) :
    Meets (Builtin.«list.__mul__» ⟨[.ref l, .int x u], []⟩) (fun _ R s => s.heap.get? l = some { cls := .type "list", dict := dd, data := .seq items n, slots := sl } ∧ R (.ok (.ret (Value.ref s.heap.objs.size))) { s with heap := s.heap.push { cls := Value.type "list", data := Data.seq (List.foldl (fun x1 x2 => x1 ++ x2) #[] (List.replicate (if items.isEmpty = true then 0 else x.toNat) items)) }, toks := s.toks }) :=
  .of_wp fun prog w A R s h => by
    obtain ⟨hp, g, d, tk, os⟩ := s; obtain ⟨hl, h⟩ := h
    have f1 := AutoSeq1.idx_int
    wp_walk using wpAny_loadPart' hl; refine wpAny_ite_false (decide_eq_false (Nat.not_lt.mpr hsz)) ?_; wp_walk using wpAny_loadPart' hl; exact ⟨_, rfl, h⟩
theorem int_rmul_list (a : Int) (t : Tok) (l : Addr) (items : Array Value) (n : Nat) (dd : Option Addr) (sl : Array (Option Value)) :
    Meets (Builtin.«int.__rmul__» ⟨[.int a t, .ref l], []⟩) (fun _ R s => s.heap.get? l = some { cls := .type "list", dict := dd, data := .seq items n, slots := sl } ∧ R (.ok (.ret Value.notImplemented)) s) :=
  .of_wp fun prog w A R s h => by obtain ⟨hp, g, d, tk, os⟩ := s; obtain ⟨hl, h⟩ := h; wp_walk using wpAny_loadPart' hl; exact ⟨_, rfl, h⟩
section
variable {X : Cx}
def rCatL (K : PySem.W.Frag) : R2 := fun x y H Q => ∃ l b xs zs, x = .ref l ∧ y = .ref b ∧ SqL K H l xs ∧ SqL K H b zs ∧ xs.length + zs.length ≤ sizeLine ∧ ∀ p, H p = none → Q (.ref p) (upd H p (.lst (xs ++ zs)))
theorem op_catL : OpR X (binaryOp .Add) (rCatL X.K) := by
  intro pins s σ H x y v u Q I rx ry h
  obtain ⟨l, b, xs, zs, rfl, rfl, hH, hB, hz, q⟩ := h
  cases rx
  cases ry
  obtain ⟨its, r, ⟨⟨cls, dd, data, sl⟩, n, ho, hc, _, hd⟩, _⟩ := I.list hH
  obtain ⟨its2, r2, ⟨⟨cls2, dd2, data2, sl2⟩, n2, ho2, hc2, _, hd2⟩, _⟩ := I.list hB
  simp only at hc hd hc2 hd2
  subst hc hd hc2 hd2
  have e : its.toArray ++ its2.toArray = (its ++ its2).toArray := by simp
  have l1 := r.length
  have l2 := r2.length
  refine concat_meets ⟨_, ho, rfl⟩ ⟨_, ho2, rfl⟩ noFill_list_add seq_list_add PySem.F.slot_list_add PySem.F.entry_list_add (PySem.F.args_list_add_2 _ _) (list_addW l b its.toArray its2.toArray n n2 dd dd2 sl sl2 (by rw [List.size_toArray, List.size_toArray]; omega)) ⟨ho, ho2, ?_⟩
  rw [e]
  exact ⟨.ref _, _, I.lnew (t' := s.toks) (r.append r2) (by rw [List.length_append]; omega), rfl, q _ I.fresh⟩
def rRepL (K : PySem.W.Frag) : R2 := fun x y H Q => ∃ l k xs, x = .ref l ∧ y = .int k ∧ SqL K H l xs ∧ -(2 ^ 63) ≤ k ∧ k < 2 ^ 63 ∧ xs.length * k.toNat ≤ sizeLine ∧
  ∀ p, H p = none → Q (.ref p) (upd H p (.lst (List.replicate k.toNat xs).flatten))
theorem op_repL : OpR X (binaryOp .Mult) (rRepL X.K) := by
  intro pins s σ H x y v u Q I rx ry h
  obtain ⟨l, k, xs, rfl, rfl, hH, h1, h2, hz, q⟩ := h
  cases rx
  obtain ⟨t, rfl⟩ := ry
  obtain ⟨its, r, ⟨⟨cls, dd, data, sl⟩, n, ho, hc, _, hd⟩, _⟩ := I.list hH
  simp only at hc hd
  subst hc hd
  have hl := r.length
  have hlen : its.toArray.size * k.toNat ≤ sizeLine := by rw [List.size_toArray, ← hl]; exact hz
  have hcap : ¬ its.toArray.size * k.toNat > (2 ^ 63 - 1) / 8 := by
    have : (sizeLine : Nat) ≤ (2 ^ 63 - 1) / 8 := by decide
    omega
  have hfit : ¬ (!Builtin.List.listFitsIndex k) = true := by
    rw [fitsIndex_both h1 h2]
    exact Bool.false_ne_true
  have hlong : ¬ Builtin.List.listTooLong (its.toArray.size * k.toNat) = true := by
    rw [notLongL hlen]
    exact Bool.false_ne_true
  have hnew : List.foldl (fun x1 x2 => x1 ++ x2) #[] (List.replicate (if its.toArray.isEmpty = true then 0 else k.toNat) its.toArray) = (List.replicate k.toNat its).flatten.toArray := by
    have f0 : ∀ m : Nat, List.foldl (fun x1 x2 => x1 ++ x2) #[] (List.replicate m its.toArray) = (List.replicate m its).flatten.toArray := fun m => by
      have := foldl_rep its m []
      rw [List.nil_append] at this
      exact this
    rw [f0]
    cases its with
    | nil => simp
    | cons a r' => rw [if_neg (by simp)]
  have hfl : (List.replicate k.toNat its).flatten.length ≤ sizeLine := by rw [PyProof.Rows.lm_len_rep_flat, ← hl, Nat.mul_comm]; exact hz
  refine wpAny_binaryOp_repeat_ref (T := "list") (U := "int") (by decide) ⟨_, ho, rfl⟩ (fun s' => typeIs_int s' k t) noFill_list_mul F.fills_int_mul F.slot_int_rmul repeat_list F.slot_int_index.lookup
    (call_meets F.slot_int_rmul (typeIs_int s k t) F.entry_int_rmul (F.args_int_rmul_2 _ _) (int_rmul_list k t l its.toArray n dd sl)
      ⟨ho, rfl, ⟨_, ho, rfl⟩, call_meets F.slot_list_mul ⟨_, ho, rfl⟩ F.entry_list_mul (F.args_list_mul_2 _ _) (list_mulW l its.toArray n dd sl k t hfit hcap hlong (by rw [hnew, List.size_toArray]; exact hfl)) ⟨ho, ?_⟩⟩)
  rw [hnew]
  exact ⟨.ref _, _, I.lnew (t' := s.toks) (r.rep k.toNat) (by rw [PyProof.Rows.lm_len_rep_flat, Nat.mul_comm]; exact hz), rfl, q _ I.fresh⟩
/-! ### bools among ints -/
theorem op_add_bi : OpR X (binaryOp .Add) (fun x y H Q => ∃ k i, x = .bl k ∧ y = .int i ∧ Q (.int (b2i k + i)) H) := by
  intro pins s σ H x y v u Q I rx ry h
  obtain ⟨k, i, rfl, rfl, q⟩ := h
  obtain ⟨t, rfl⟩ := ry
  cases rx
  exact PySem.IntBool.add_bool_int ⟨.int (b2i k + i), H, I.tok _, ⟨_, rfl⟩, q⟩
theorem op_sub_bi : OpR X (binaryOp .Sub) (fun x y H Q => ∃ k i, x = .bl k ∧ y = .int i ∧ Q (.int (b2i k - i)) H) := by
  intro pins s σ H x y v u Q I rx ry h
  obtain ⟨k, i, rfl, rfl, q⟩ := h
  obtain ⟨t, rfl⟩ := ry
  cases rx
  exact PySem.IntBool.sub_bool_int ⟨.int (b2i k - i), H, I.tok _, ⟨_, rfl⟩, q⟩
end

section
variable {X : Cx} {G : Gr}
theorem OpG.or_l {r r' : R2} {g : D → D → Option D} (h : OpG G r g) : OpG G (fun x y H Q => r x y H Q ∨ r' x y H Q) g := fun O H x y d e z Q hd hx hy hg q => .inl (h O H x y d e z Q hd hx hy hg q)
/-- by cases: the first operation that serves -/
def orD (g g' : D → D → Option D) : D → D → Option D := fun d e => match g d e with
  | some z => some z
  | none => g' d e
theorem OpG.or {r r' : R2} {g g' : D → D → Option D} (h : OpG G r g) (h' : OpG G r' g') : OpG G (fun x y H Q => r x y H Q ∨ r' x y H Q) (orD g g') := fun O H x y d e z Q hd hx hy hg q => by
  unfold orD at hg
  cases h1 : g d e with
  | some z' => rw [h1] at hg; cases hg; exact .inl (h O H x y d e _ Q hd hx hy h1 q)
  | none => rw [h1] at hg; exact .inr (h' O H x y d e z Q hd hx hy hg q)
theorem OpG.congr {r : R2} {g g' : D → D → Option D} (h : OpG G r g) (e : ∀ d e, g' d e = g d e) : OpG G r g' := fun O H x y d e' z Q hd hx hy hg q => h O H x y d e' z Q hd hx hy (by rw [← e]; exact hg) q
/-- two ints -/
def iiD (C : Int → Int → Bool) (f : Int → Int → D) : D → D → Option D
  | .int i, .int j => if C i j = true then some (f i j) else none
  | _, _ => none
theorem iiD_some {C : Int → Int → Bool} {f : Int → Int → D} {d e z : D} (h : iiD C f d e = some z) : ∃ i j, d = .int i ∧ e = .int j ∧ C i j = true ∧ z = f i j := by
  unfold iiD at h
  split at h
  · rename_i i j
    by_cases c : C i j = true
    · rw [if_pos c] at h; cases h; exact ⟨i, j, rfl, rfl, c, rfl⟩
    · rw [if_neg c] at h; cases h
  · cases h
theorem rs_int {O H v i} (h : Rs G O H v (.int i)) : v = .int i := by
  have h : Rp G.K G.cv O H v (.int i) := h
  cases h; rfl
theorem rs_bl {O H v b} (h : Rs G O H v (.bl b)) : v = .bl b := by
  have h : Rp G.K G.cv O H v (.bl b) := h
  cases h; rfl
theorem rs_str {O H v b} (h : Rs G O H v (.str b)) : v = .str b := by
  have h : Rp G.K G.cv O H v (.str b) := h
  cases h; rfl
theorem rs_non {O H v} (h : Rs G O H v .non) : v = .non := by
  have h : Rp G.K G.cv O H v .non := h
  cases h; rfl
theorem rs_ref {O H v a} (h : Rs G O H v (.ref a)) : v = .ref a := by
  have h : Rp G.K G.cv O H v (.ref a) := h
  cases h; rfl
theorem rs_tup {O H v xs} (h : Rs G O H v (.tup xs)) : ∃ a us, v = .ref a ∧ SqT G.K H a us ∧ RpA G.K G.cv O H us xs := by
  have h : Rp G.K G.cv O H v (.tup xs) := h
  cases h with
  | tup h2 r => exact ⟨_, _, rfl, h2, r⟩
theorem og_rI {C : Int → Int → Prop} {f : Int → Int → Int} {c : Int → Int → Bool} (hc : ∀ i j, c i j = true → C i j) : OpG G (rI C fun i j => .int (f i j)) (iiD c fun i j => .int (f i j)) := fun O H x y d e z Q hd hx hy hg q => by
  obtain ⟨i, j, rfl, rfl, h, rfl⟩ := iiD_some hg
  rw [rs_int hx, rs_int hy]
  exact ⟨i, j, rfl, rfl, hc i j h, q _ H (fun _ _ h => h) (.int _)⟩
theorem og_rI0 {f : Int → Int → Int} : OpG G (rI0 fun i j => .int (f i j)) (iiD (fun _ _ => true) fun i j => .int (f i j)) := fun O H x y d e z Q hd hx hy hg q => by
  obtain ⟨i, j, rfl, rfl, h, rfl⟩ := iiD_some hg
  rw [rs_int hx, rs_int hy]
  exact ⟨i, j, rfl, rfl, q _ H (fun _ _ h => h) (.int _)⟩
theorem og_rB0 {f : Int → Int → Bool} : OpG G (rI0 fun i j => .bl (f i j)) (iiD (fun _ _ => true) fun i j => .bl (f i j)) := fun O H x y d e z Q hd hx hy hg q => by
  obtain ⟨i, j, rfl, rfl, h, rfl⟩ := iiD_some hg
  rw [rs_int hx, rs_int hy]
  exact ⟨i, j, rfl, rfl, q _ H (fun _ _ h => h) (.bl _)⟩
theorem rp_newL {O : AS} {H : Hp} {p : Addr} {us : List V} {xs : List D} (hd : ∀ a, O.av a → H a ≠ none) (hp : H p = none) (r : RpA G.K G.cv O H us xs) : Rp G.K G.cv O (upd H p (.lst us)) (.ref p) (.lst xs) :=
  .lst (.inl ⟨.inl upd_same, fun z => hd p z hp⟩) (r.ex (EX.new hp))
theorem rp_newT {O : AS} {H : Hp} {p : Addr} {us : List V} {xs : List D} (hp : H p = none) (r : RpA G.K G.cv O H us xs) : Rp G.K G.cv O (upd H p (.tup us)) (.ref p) (.tup xs) :=
  .tup (SqT.of upd_same) (r.ex (O := O) (EX.new hp))
theorem upd_new {H : Hp} {p : Addr} {u : HO} (h : H p = none) : ∀ b o, H b = some o → upd H p u b = some o := fun b o e => by rw [upd_ne (ne_of_none e h)]; exact e

/-! ### + - * // % ** -/
def addL : D → D → Option D
  | .lst xs, .lst ys => if xs.length + ys.length ≤ 16777216 then some (.lst (xs ++ ys)) else none
  | _, _ => none
def addT : D → D → Option D
  | .tup xs, .tup ys => if xs.length + ys.length ≤ 16777216 then some (.tup (xs ++ ys)) else none
  | _, _ => none
def addS : D → D → Option D
  | .str x, .str y => if x.length + y.length ≤ 16777216 then some (.str (x ++ y)) else none
  | _, _ => none
def addB : D → D → Option D
  | .bl k, .int i => some (.int (b2i k + i))
  | _, _ => none
def subB : D → D → Option D
  | .bl k, .int i => some (.int (b2i k - i))
  | _, _ => none
theorem og_addL : OpG G (rCatL G.K) addL := fun O H x y d e z Q hd hx hy hg q => by
  unfold addL at hg
  split at hg
  · rename_i xs ys
    split at hg
    · rename_i hz
      cases hg
      obtain ⟨a, us, rfl, h1, r1⟩ := hx
      obtain ⟨b, ws, rfl, h2, r2⟩ := hy
      refine ⟨a, b, us, ws, rfl, rfl, h1, h2, by rw [r1.len, r2.len, sizeLine_eq]; exact hz, fun p hp => ?_⟩
      exact q _ _ (upd_new hp) (rp_newL hd hp (r1.append r2))
    · cases hg
  · cases hg
theorem og_addT : OpG G (rCatA G.K) addT := fun O H x y d e z Q hd hx hy hg q => by
  unfold addT at hg
  split at hg
  · rename_i xs ys
    split at hg
    · rename_i hz
      cases hg
      obtain ⟨a, us, rfl, h1, r1⟩ := rs_tup hx
      obtain ⟨b, ws, rfl, h2, r2⟩ := rs_tup hy
      refine ⟨a, b, us, ws, rfl, rfl, h1, h2, by rw [r1.len, r2.len, sizeLine_eq]; exact hz, fun e => ?_, fun _ e => ?_, fun _ _ p hp => ?_⟩
      · subst e; cases r1; exact q _ H (fun _ _ h => h) (.tup h2 r2)
      · subst e; cases r2; rw [List.append_nil] at q; exact q _ H (fun _ _ h => h) (.tup h1 r1)
      · exact q _ _ (upd_new hp) (rp_newT hp (r1.append r2))
    · cases hg
  · cases hg
theorem og_addS : OpG G (fun x y H Q => ∃ i j, x = .str i ∧ y = .str j ∧ i.length + j.length ≤ sizeLine ∧ Q (.str (i ++ j)) H) addS := fun O H x y d e z Q hd hx hy hg q => by
  unfold addS at hg
  split at hg
  · rename_i xs ys
    split at hg
    · rename_i hz
      cases hg
      rw [rs_str hx, rs_str hy]
      exact ⟨_, _, rfl, rfl, by rw [sizeLine_eq]; exact hz, q _ H (fun _ _ h => h) (.str _)⟩
    · cases hg
  · cases hg
theorem og_addB : OpG G (fun x y H Q => ∃ k i, x = .bl k ∧ y = .int i ∧ Q (.int (b2i k + i)) H) addB := fun O H x y d e z Q hd hx hy hg q => by
  unfold addB at hg
  split at hg
  · cases hg; rw [rs_bl hx, rs_int hy]; exact ⟨_, _, rfl, rfl, q _ H (fun _ _ h => h) (.int _)⟩
  · cases hg
theorem og_subB : OpG G (fun x y H Q => ∃ k i, x = .bl k ∧ y = .int i ∧ Q (.int (b2i k - i)) H) subB := fun O H x y d e z Q hd hx hy hg q => by
  unfold subB at hg
  split at hg
  · cases hg; rw [rs_bl hx, rs_int hy]; exact ⟨_, _, rfl, rfl, q _ H (fun _ _ h => h) (.int _)⟩
  · cases hg
def addD : D → D → Option D
  | .int i, .int j => some (.int (i + j))
  | .lst xs, .lst ys => addL (.lst xs) (.lst ys)
  | .tup xs, .tup ys => addT (.tup xs) (.tup ys)
  | .str x, .str y => addS (.str x) (.str y)
  | .bl k, .int i => some (.int (b2i k + i))
  | _, _ => none
theorem addD_eq : ∀ d e, addD d e = orD (iiD (fun _ _ => true) fun i j => .int (i + j)) (orD addL (orD addT (orD addS addB))) d e := by
  intro d e
  cases d <;> cases e <;> simp [addD, orD, iiD, addL, addT, addS, addB] <;> split <;> simp_all
theorem add_ok : OpR X (binaryOp .Add) (fun x y H Q => rI0 (fun i j => .int (i + j)) x y H Q ∨ rCatL X.K x y H Q ∨ rCatA X.K x y H Q ∨ (∃ i j, x = .str i ∧ y = .str j ∧ i.length + j.length ≤ sizeLine ∧ Q (.str (i ++ j)) H) ∨ ∃ k i, x = .bl k ∧ y = .int i ∧ Q (.int (b2i k + i)) H) :=
  op_add.or (op_catL.or (op_catA.or (op_add_str.or op_add_bi)))
theorem og_add : OpG G (fun x y H Q => rI0 (fun i j => .int (i + j)) x y H Q ∨ rCatL G.K x y H Q ∨ rCatA G.K x y H Q ∨ (∃ i j, x = .str i ∧ y = .str j ∧ i.length + j.length ≤ sizeLine ∧ Q (.str (i ++ j)) H) ∨ ∃ k i, x = .bl k ∧ y = .int i ∧ Q (.int (b2i k + i)) H) addD :=
  (og_rI0.or (og_addL.or (og_addT.or (og_addS.or og_addB)))).congr addD_eq
def subD : D → D → Option D
  | .int i, .int j => some (.int (i - j))
  | .bl k, .int i => some (.int (b2i k - i))
  | _, _ => none
theorem sub_ok : OpR X (binaryOp .Sub) (fun x y H Q => rI0 (fun i j => .int (i - j)) x y H Q ∨ ∃ k i, x = .bl k ∧ y = .int i ∧ Q (.int (b2i k - i)) H) := op_sub.or op_sub_bi
theorem og_sub : OpG G (fun x y H Q => rI0 (fun i j => .int (i - j)) x y H Q ∨ ∃ k i, x = .bl k ∧ y = .int i ∧ Q (.int (b2i k - i)) H) subD :=
  (og_rI0.or og_subB).congr fun d e => by cases d <;> cases e <;> simp [subD, orD, iiD, subB]
def mulL : D → D → Option D
  | .lst xs, .int k => if 0 ≤ k ∧ k < 1000 ∧ xs.length * k.toNat ≤ 16777216 then some (.lst (List.replicate k.toNat xs).flatten) else none
  | _, _ => none
def mulT : D → D → Option D
  | .tup xs, .int k => if xs ≠ [] ∧ 2 ≤ k ∧ k ≤ 1000 ∧ xs.length ≤ 1000 then some (.tup (List.replicate k.toNat xs).flatten) else none
  | _, _ => none
def cMulB (i j : Int) : Bool := decide (-(2 ^ 64) < i ∧ i < 2 ^ 64) || decide (-(2 ^ 64) < j ∧ j < 2 ^ 64)
theorem og_mulL : OpG G (rRepL G.K) mulL := fun O H x y d e z Q hd hx hy hg q => by
  unfold mulL at hg
  split at hg
  · rename_i xs k
    split at hg
    · rename_i hz
      cases hg
      obtain ⟨a, us, rfl, h1, r1⟩ := hx
      rw [rs_int hy]
      refine ⟨a, k, us, rfl, rfl, h1, by omega, by omega, by rw [r1.len, sizeLine_eq]; exact hz.2.2, fun p hp => ?_⟩
      exact q _ _ (upd_new hp) (rp_newL hd hp (r1.rep _))
    · cases hg
  · cases hg
theorem og_mulT : OpG G (rRepT G.K) mulT := fun O H x y d e z Q hd hx hy hg q => by
  unfold mulT at hg
  split at hg
  · rename_i xs k
    split at hg
    · rename_i hz
      cases hg
      obtain ⟨a, us, rfl, h1, r1⟩ := rs_tup hx
      rw [rs_int hy]
      refine ⟨a, k, us, rfl, rfl, h1, fun e => ?_, hz.2.1, hz.2.2.1, by rw [r1.len]; exact hz.2.2.2, fun p hp => ?_⟩
      · subst e; cases r1; exact hz.1 rfl
      · exact q _ _ (upd_new hp) (rp_newT hp (r1.rep _))
    · cases hg
  · cases hg
def mulD : D → D → Option D
  | .int i, .int j => if cMulB i j = true then some (.int (i * j)) else none
  | .lst xs, .int k => mulL (.lst xs) (.int k)
  | .tup xs, .int k => mulT (.tup xs) (.int k)
  | _, _ => none
theorem mul_ok : OpR X (binaryOp .Mult) (fun x y H Q => rI CMul (fun i j => .int (i * j)) x y H Q ∨ rRepL X.K x y H Q ∨ rRepT X.K x y H Q) := op_mul.or (op_repL.or op_repT)
theorem og_mul : OpG G (fun x y H Q => rI CMul (fun i j => .int (i * j)) x y H Q ∨ rRepL G.K x y H Q ∨ rRepT G.K x y H Q) mulD :=
  ((og_rI (c := cMulB) fun i j h => by
    unfold cMulB at h
    rw [Bool.or_eq_true, decide_eq_true_eq, decide_eq_true_eq] at h
    exact h).or (og_mulL.or og_mulT)).congr fun d e => by
      cases d <;> cases e <;> simp [mulD, orD, iiD, mulL, mulT] <;> split <;> simp_all
def fdivD : D → D → Option D := iiD (fun _ j => decide (0 < j ∧ j < 1073741824)) fun i j => .int (i / j)
theorem og_fdiv : OpG G (rI CDiv fun i j => .int (i / j)) fdivD := og_rI fun i j h => by
  have h : decide (0 < j ∧ j < 1073741824) = true := h
  have h2 : 0 < j ∧ j < 1073741824 := of_decide_eq_true h
  exact h2
def modD : D → D → Option D := iiD (fun _ j => decide (0 < j)) fun i j => .int (i % j)
theorem og_mod : OpG G (rI (fun _ j => 0 < j) fun i j => .int (i % j)) modD := og_rI fun i j h => of_decide_eq_true h
def powD : D → D → Option D := iiD (fun i j => decide (0 ≤ j ∧ j ≤ 1000000 ∧ i.natAbs < 2 ^ 64)) fun i j => .int (i ^ j.toNat)
theorem og_pow : OpG G (rI CPow fun i j => .int (i ^ j.toNat)) powD := og_rI fun i j h => by
  have h : decide (0 ≤ j ∧ j ≤ 1000000 ∧ i.natAbs < 2 ^ 64) = true := h
  have h2 : 0 ≤ j ∧ j ≤ 1000000 ∧ i.natAbs < 2 ^ 64 := of_decide_eq_true h
  exact h2
end
end EL

/-! E5: comparisons, truth, and, or, not, the conditional expression. -/
namespace EL
open PySem PySem.Spec PyProof.Rows L2

/-- what == takes: no instance within, at most so deep, texts of signs -/
def okd : Nat → D → Bool
  | 0, d => match d with
    | .non => true
    | .bl _ => true
    | .int _ => true
    | .str x => PyData.strOk x
    | _ => false
  | n + 1, d => match d with
    | .non => true
    | .bl _ => true
    | .int _ => true
    | .str x => PyData.strOk x
    | .tup xs => xs.all (okd n)
    | .lst xs => xs.all (okd n)
    | _ => false
@[simp] theorem okd_non (n : Nat) : okd n .non = true := by cases n <;> rfl
@[simp] theorem okd_bl (n : Nat) (b : Bool) : okd n (.bl b) = true := by cases n <;> rfl
@[simp] theorem okd_int (n : Nat) (i : Int) : okd n (.int i) = true := by cases n <;> rfl
@[simp] theorem okd_str (n : Nat) (x : Str) : okd n (.str x) = PyData.strOk x := by cases n <;> rfl
@[simp] theorem okd_tup (n : Nat) (xs : List D) : okd (n + 1) (.tup xs) = xs.all (okd n) := rfl
@[simp] theorem okd_lst (n : Nat) (xs : List D) : okd (n + 1) (.lst xs) = xs.all (okd n) := rfl
theorem okd_plain : ∀ (n : Nat) (d : D), okd n d = true → plain d = true ∧ (toP d).canLay0 = true ∧ (toP d).depth ≤ n
  | n, .non, _ => by simp [plain, toP, PyData.canLay0, PyData.depth]
  | n, .bl _, _ => by simp [plain, toP, PyData.canLay0, PyData.depth]
  | n, .int _, _ => by simp [plain, toP, PyData.canLay0, PyData.depth]
  | n, .str x, h => by
    rw [okd_str] at h
    simp [plain, toP, PyData.canLay0, PyData.depth, h]
  | 0, .tup _, h => by cases h
  | 0, .lst _, h => by cases h
  | n + 1, .tup xs, h => by
    rw [okd_tup] at h
    have q : ∀ ys : List D, ys.all (okd n) = true → plains ys = true ∧ PyData.canLayAll0 (toPs ys) = true ∧ PyData.depthAll (toPs ys) ≤ n := by
      intro ys
      induction ys with
      | nil => intro _; simp [plains, toPs, PyData.canLayAll0, PyData.depthAll]
      | cons y ys ih =>
        intro h
        rw [List.all_cons, Bool.and_eq_true] at h
        obtain ⟨a1, a2, a3⟩ := okd_plain n y h.1
        obtain ⟨b1, b2, b3⟩ := ih h.2
        simp only [plains, toPs, PyData.canLayAll0, PyData.depthAll, a1, a2, b1, b2, Bool.and_self, true_and]
        omega
    obtain ⟨b1, b2, b3⟩ := q xs h
    simp only [plain, toP, PyData.canLay0, PyData.depth, b1, b2, true_and]
    omega
  | n + 1, .lst xs, h => by
    rw [okd_lst] at h
    have q : ∀ ys : List D, ys.all (okd n) = true → plains ys = true ∧ PyData.canLayAll0 (toPs ys) = true ∧ PyData.depthAll (toPs ys) ≤ n := by
      intro ys
      induction ys with
      | nil => intro _; simp [plains, toPs, PyData.canLayAll0, PyData.depthAll]
      | cons y ys ih =>
        intro h
        rw [List.all_cons, Bool.and_eq_true] at h
        obtain ⟨a1, a2, a3⟩ := okd_plain n y h.1
        obtain ⟨b1, b2, b3⟩ := ih h.2
        simp only [plains, toPs, PyData.canLayAll0, PyData.depthAll, a1, a2, b1, b2, Bool.and_self, true_and]
        omega
    obtain ⟨b1, b2, b3⟩ := q xs h
    simp only [plain, toP, PyData.canLay0, PyData.depth, b1, b2, true_and]
    omega
  | 0, .ins _ _, h => by cases h
  | 0, .ref _, h => by cases h
  | n + 1, .ins _ _, h => by cases h
  | n + 1, .ref _, h => by cases h
theorem okd_mono : ∀ (n m : Nat) (d : D), n ≤ m → okd n d = true → okd m d = true
  | n, m, .non, _, _ => by simp
  | n, m, .bl _, _, _ => by simp
  | n, m, .int _, _, _ => by simp
  | n, m, .str x, _, h => by simpa using h
  | 0, m, .tup _, _, h => by cases h
  | 0, m, .lst _, _, h => by cases h
  | n + 1, 0, .tup _, hm, h => by omega
  | n + 1, 0, .lst _, hm, h => by omega
  | n + 1, m + 1, .tup xs, hm, h => by
    rw [okd_tup, List.all_eq_true] at h ⊢
    exact fun x hx => okd_mono n m x (by omega) (h x hx)
  | n + 1, m + 1, .lst xs, hm, h => by
    rw [okd_lst, List.all_eq_true] at h ⊢
    exact fun x hx => okd_mono n m x (by omega) (h x hx)
  | 0, _, .ins _ _, _, h => by cases h
  | 0, _, .ref _, _, h => by cases h
  | n + 1, _, .ins _ _, _, h => by cases h
  | n + 1, _, .ref _, _, h => by cases h
theorem okd_shaped {n : Nat} {d : D} (hn : n ≤ 64) (h : okd n d = true) : SeqAt.shaped (toP d) = true := by
  obtain ⟨_, h2, h3⟩ := okd_plain n d h
  show ((toP d).canLay0 && decide ((toP d).depth ≤ 64)) = true
  rw [h2, Bool.true_and]
  exact decide_eq_true (by omega)
/-- == of data -/
def eqd (d e : D) : Bool := PyData.eqv (toP d) (toP e)
/-- an equal one among these -/
def memd (d : D) (xs : List D) : Bool := xs.any fun z => eqd z d
def eqD (d e : D) : Option D := if okd 60 d = true ∧ okd 60 e = true then some (.bl (eqd d e)) else none
def neD (d e : D) : Option D := if okd 60 d = true ∧ okd 60 e = true then some (.bl (!eqd d e)) else none
def inD (d e : D) : Option D := match e with
  | .lst xs => if okd 60 d = true ∧ okd 60 (.lst xs) = true then some (.bl (memd d xs)) else none
  | .tup xs => if okd 60 d = true ∧ okd 60 (.tup xs) = true then some (.bl (memd d xs)) else none
  | _ => none
def ninD (d e : D) : Option D := match e with
  | .lst xs => if okd 60 d = true ∧ okd 60 (.lst xs) = true then some (.bl (!memd d xs)) else none
  | .tup xs => if okd 60 d = true ∧ okd 60 (.tup xs) = true then some (.bl (!memd d xs)) else none
  | _ => none
def isNon : D → Bool
  | .non => true
  | _ => false
/-- is None, is True -/
def isD : D → D → Option D
  | .bl a, .bl b => some (.bl (decide (a = b)))
  | d, .non => some (.bl (isNon d))
  | _, _ => none
def isnD : D → D → Option D
  | .bl a, .bl b => some (.bl (!decide (a = b)))
  | d, .non => some (.bl (!(isNon d)))
  | _, _ => none
def intsOf : List D → Option (List Int)
  | [] => some []
  | .int i :: r => (intsOf r).map (i :: ·)
  | _ :: _ => none
@[simp] theorem intsOf_nil : intsOf [] = some [] := rfl
@[simp] theorem intsOf_cons (i : Int) (r : List D) : intsOf (.int i :: r) = (intsOf r).map (i :: ·) := rfl
theorem intsOf_some : ∀ {xs : List D} {ns : List Int}, intsOf xs = some ns → xs = ns.map D.int
  | [], ns, h => by cases h; rfl
  | d :: r, ns, h => by
    cases d with
    | int i =>
      rw [intsOf_cons] at h
      cases q : intsOf r with
      | none => rw [q] at h; cases h
      | some ms => rw [q] at h; cases h; rw [intsOf_some q]; rfl
    | _ => cases h
theorem intsOf_map (ns : List Int) : intsOf (ns.map D.int) = some ns := by
  induction ns with
  | nil => rfl
  | cons n ns ih => rw [List.map_cons, intsOf_cons, ih]; rfl
def ltD : D → D → Option D
  | .int i, .int j => some (.bl (decide (i < j)))
  | .tup xs, .tup ys => match intsOf xs, intsOf ys with
    | some a, some b => some (.bl (HT.lexLt a b))
    | _, _ => none
  | _, _ => none
def leD : D → D → Option D := iiD (fun _ _ => true) fun i j => .bl (decide (i ≤ j))
def gtD : D → D → Option D := iiD (fun _ _ => true) fun i j => .bl (decide (j < i))
def geD : D → D → Option D := iiD (fun _ _ => true) fun i j => .bl (decide (j ≤ i))
section
variable {G : Gr} {X : Cx} {W : WX}
theorem og_eq : OpG G (rEqD G.K) eqD := fun O H x y d e z Q hd hx hy hg q => by
  unfold eqD at hg
  split at hg
  · rename_i h
    cases hg
    exact ⟨_, _, hx.dp (okd_plain _ _ h.1).1, hy.dp (okd_plain _ _ h.2).1, okd_shaped (by decide) h.1, okd_shaped (by decide) h.2, q _ H (fun _ _ h => h) (.bl _)⟩
  · cases hg
theorem og_ne : OpG G (rNeD G.K) neD := fun O H x y d e z Q hd hx hy hg q => by
  unfold neD at hg
  split at hg
  · rename_i h
    cases hg
    exact ⟨_, _, hx.dp (okd_plain _ _ h.1).1, hy.dp (okd_plain _ _ h.2).1, okd_shaped (by decide) h.1, okd_shaped (by decide) h.2, q _ H (fun _ _ h => h) (.bl _)⟩
  · cases hg
/-- in, also of a tuple -/
def rInA (K : PySem.W.Frag) (neg : Bool) : R2 := fun x y H Q => ∃ d ds, Dp K H x d ∧ (Dp K H y (.list ds) ∨ Dp K H y (.tuple ds)) ∧ SeqAt.shaped d = true ∧ PyData.canLayAll0 ds = true ∧ Q (.bl (if neg then !(ds.any fun z => PyData.eqv z d) else ds.any fun z => PyData.eqv z d)) H
theorem op_inA (hu : X.A.units + 65 < cLine) : OpR X (compareOp .In) (rInA X.K false) := by
  intro pins s σ H x y v u Q I rx ry h
  obtain ⟨d, ds, hd, he, sd, se, q⟩ := h
  obtain ⟨as, r1⟩ := Dp.reads I d x v hd rx
  rcases he with he | he
  · obtain ⟨bs, r2⟩ := Dp.reads I (.list ds) y u he ry
    exact SeqAt.in_list_reads r2 r1 se (SeqAt.canLay_of_shaped sd) (room_in_shaped sd hu) ⟨.bl _, H, I, rfl, q⟩
  · obtain ⟨bs, r2⟩ := Dp.reads I (.tuple ds) y u he ry
    exact SeqAt.in_tuple_reads r2 r1 se (SeqAt.canLay_of_shaped sd) (room_in_shaped sd hu) ⟨.bl _, H, I, rfl, q⟩
theorem op_ninA (hu : X.A.units + 65 < cLine) : OpR X (compareOp .NotIn) (rInA X.K true) := by
  intro pins s σ H x y v u Q I rx ry h
  obtain ⟨d, ds, hd, he, sd, se, q⟩ := h
  obtain ⟨as, r1⟩ := Dp.reads I d x v hd rx
  rcases he with he | he
  · obtain ⟨bs, r2⟩ := Dp.reads I (.list ds) y u he ry
    exact SeqAt.notIn_list_reads r2 r1 se (SeqAt.canLay_of_shaped sd) (room_in_shaped sd hu) ⟨.bl _, H, I, rfl, q⟩
  · obtain ⟨bs, r2⟩ := Dp.reads I (.tuple ds) y u he ry
    exact SeqAt.notIn_tuple_reads r2 r1 se (SeqAt.canLay_of_shaped sd) (room_in_shaped sd hu) ⟨.bl _, H, I, rfl, q⟩
theorem memd_eq (d : D) (xs : List D) : ((toPs xs).any fun z => PyData.eqv z (toP d)) = memd d xs := by
  rw [toPs_map, List.any_map]; rfl
theorem og_inA {neg : Bool} {g : D → D → Option D} (h : ∀ d e z, g d e = some z → ∃ xs, (e = .lst xs ∨ e = .tup xs) ∧ okd 60 d = true ∧ okd 60 e = true ∧ z = .bl (if neg then !memd d xs else memd d xs)) : OpG G (rInA G.K neg) g := fun O H x y d e z Q hd hx hy hg q => by
  obtain ⟨xs, he, h1, h2, rfl⟩ := h d e z hg
  have p2 := okd_plain _ _ h2
  have hy' := hy.dp p2.1
  refine ⟨toP d, toPs xs, hx.dp (okd_plain _ _ h1).1, ?_, okd_shaped (by decide) h1, ?_, ?_⟩
  · rcases he with rfl | rfl
    · exact .inl hy'
    · exact .inr hy'
  · rcases he with rfl | rfl
    · simpa [toP, PyData.canLay0] using p2.2.1
    · simpa [toP, PyData.canLay0] using p2.2.1
  · rw [memd_eq]
    exact q _ H (fun _ _ h => h) (.bl _)
theorem og_in : OpG G (rInA G.K false) inD := og_inA fun d e z h => by
  unfold inD at h
  split at h
  · split at h
    · rename_i hh; cases h; exact ⟨_, .inl rfl, hh.1, hh.2, rfl⟩
    · cases h
  · split at h
    · rename_i hh; cases h; exact ⟨_, .inr rfl, hh.1, hh.2, rfl⟩
    · cases h
  · cases h
theorem og_nin : OpG G (rInA G.K true) ninD := og_inA fun d e z h => by
  unfold ninD at h
  split at h
  · split at h
    · rename_i hh; cases h; exact ⟨_, .inl rfl, hh.1, hh.2, rfl⟩
    · cases h
  · split at h
    · rename_i hh; cases h; exact ⟨_, .inr rfl, hh.1, hh.2, rfl⟩
    · cases h
  · cases h
theorem rs_isnon {O H v d} (h : Rs G O H v d) : decide (v = V.non) = (isNon d) := by
  cases d with
  | non => cases rs_non h; rfl
  | bl b => cases rs_bl h; rfl
  | int i => cases rs_int h; rfl
  | str x => cases rs_str h; rfl
  | ref a => cases rs_ref h; rfl
  | tup xs => obtain ⟨a, us, rfl, _⟩ := rs_tup h; rfl
  | lst xs => obtain ⟨a, us, rfl, _⟩ := h; rfl
  | ins c fs => obtain ⟨a, C, dx, vs, rfl, _⟩ := h; rfl
theorem og_is : OpG G (fun x y H Q => rIsB x y H Q ∨ (y = .non ∧ Q (.bl (decide (x = .non))) H)) isD := fun O H x y d e z Q hd hx hy hg q => by
  unfold isD at hg
  split at hg
  · cases hg
    rw [rs_bl hx, rs_bl hy]
    exact .inl ⟨_, _, rfl, rfl, q _ H (fun _ _ h => h) (.bl _)⟩
  · cases hg
    refine .inr ⟨rs_non hy, ?_⟩
    rw [rs_isnon hx]
    exact q _ H (fun _ _ h => h) (.bl _)
  · cases hg
theorem og_isn : OpG G (fun x y H Q => rNotB x y H Q ∨ (y = .non ∧ Q (.bl (!decide (x = .non))) H)) isnD := fun O H x y d e z Q hd hx hy hg q => by
  unfold isnD at hg
  split at hg
  · cases hg
    rw [rs_bl hx, rs_bl hy]
    exact .inl ⟨_, _, rfl, rfl, q _ H (fun _ _ h => h) (.bl _)⟩
  · cases hg
    refine .inr ⟨rs_non hy, ?_⟩
    rw [rs_isnon hx]
    exact q _ H (fun _ _ h => h) (.bl _)
  · cases hg
theorem is_ok : OpR X (compareOp .Is) (fun x y H Q => rIsB x y H Q ∨ (y = .non ∧ Q (.bl (decide (x = .non))) H)) := op_isBl.or op_isN
theorem isn_ok : OpR X (compareOp .IsNot) (fun x y H Q => rNotB x y H Q ∨ (y = .non ∧ Q (.bl (!decide (x = .non))) H)) := op_notBl.or op_notN
theorem rpa_ints {O H} : ∀ {us : List V} {ns : List Int}, RpA G.K G.cv O H us (ns.map D.int) → us = ns.map V.int
  | _, [], r => by cases r; rfl
  | _, n :: ns, r => by
    rw [List.map_cons] at r
    cases r with
    | cons h r => cases h; rw [rpa_ints r]; rfl
theorem og_lt : OpG G (fun x y H Q => rI0 (fun i j => .bl (decide (i < j))) x y H Q ∨ rLtT G.K x y H Q) ltD := fun O H x y d e z Q hd hx hy hg q => by
  unfold ltD at hg
  split at hg
  · cases hg
    rw [rs_int hx, rs_int hy]
    exact .inl ⟨_, _, rfl, rfl, q _ H (fun _ _ h => h) (.bl _)⟩
  · rename_i xs ys
    split at hg
    · rename_i a b h1 h2
      cases hg
      rw [intsOf_some h1] at hx
      rw [intsOf_some h2] at hy
      obtain ⟨p, us, rfl, s1, r1⟩ := rs_tup hx
      obtain ⟨p', us', rfl, s2, r2⟩ := rs_tup hy
      rw [rpa_ints r1] at s1
      rw [rpa_ints r2] at s2
      exact .inr ⟨_, _, _, _, rfl, rfl, s1, s2, q _ H (fun _ _ h => h) (.bl _)⟩
    · cases hg
  · cases hg
theorem lt_ok (hu : X.A.units < cLine) : OpR X (compareOp .Lt) (fun x y H Q => rI0 (fun i j => .bl (decide (i < j))) x y H Q ∨ rLtT X.K x y H Q) := op_lt.or (op_ltT hu)

/-! ### truth -/
def truD : D → Option Bool
  | .non => some false
  | .bl b => some b
  | .int i => some (i != 0)
  | .str x => if x.length ≤ 16777216 then some ((x.length : Int) != 0) else none
  | .tup xs => some (!xs.isEmpty)
  | .lst xs => some (!xs.isEmpty)
  | _ => none
theorem isEmpty_len {α β : Type} {xs : List α} {ys : List β} (h : xs.length = ys.length) : xs.isEmpty = ys.isEmpty := by
  cases xs <;> cases ys <;> simp at h ⊢
theorem rs_tru {O H v d k} (h : Rs G O H v d) (t : truD d = some k) : TruV G.K v H k := by
  cases d with
  | non => rw [rs_non h]; cases t; rfl
  | bl b => rw [rs_bl h]; cases t; rfl
  | int i => rw [rs_int h]; cases t; rfl
  | str x =>
    rw [rs_str h]
    have t : (if x.length ≤ 16777216 then some ((x.length : Int) != 0) else none) = some k := t
    split at t
    · rename_i q; cases t; exact ⟨by rw [sizeLine_eq]; exact q, rfl⟩
    · cases t
  | ref a => cases t
  | tup xs => obtain ⟨a, us, rfl, h1, r⟩ := rs_tup h; cases t; exact .inr (.inl ⟨us, h1, by rw [isEmpty_len r.len]⟩)
  | lst xs => obtain ⟨a, us, rfl, h1, r⟩ := h; cases t; exact .inl ⟨us, h1, by rw [isEmpty_len r.len]⟩
  | ins c fs => cases t
def truR (r : Rv) (ρ : Env) : Option Bool := (deref r ρ).bind truD
@[simp] theorem truR_val (d : D) (ρ : Env) : truR (.val d) ρ = truD d := rfl
theorem truR_tru {O σ H ρ v r k} (E : ER G O σ H ρ) (h : RvR G O σ H v r) (t : truR r ρ = some k) : TruV G.K v H k := by
  unfold truR at t
  cases q : deref r ρ with
  | none => rw [q] at t; cases t
  | some d => rw [q] at t; exact rs_tru (deref_rs E h q) t
/-- a test by truth -/
def tTru (f : Env → Out Rv) : Env → Out Bool := fun ρ => (f ρ).bind fun r ρ1 => Out.of (truR r ρ1) ρ1
theorem tv_truth {e : Expr} {f : Env → Out Rv} (h : Ev X G W e f) (hK : X.K = G.K := by rfl) (he : ∀ whole, isTrue e X.env whole = (do let v ← whole; standAt e.pos; holding [v] (truthy v)) := by intro _; rfl) : Tv X G W e (tTru f) :=
  PTw_ (pt_truth h he) fun σ H Q ⟨O, ρ, E, a⟩ => ⟨O, ρ, E, ans_in a fun r ρ1 v H1 E1 e1 r1 a1 => by
    obtain ⟨k, hk, q⟩ := ans_of a1
    exact ⟨k, by rw [hK]; exact truR_tru E1 r1 hk, ans_ok q E1 (EX.refl _ _) rfl⟩⟩
/-- a comparison as a test -/
def tBoolO : Rv → Option Bool
  | .val (.bl b) => some b
  | _ => none
def tBl (f : Env → Out Rv) : Env → Out Bool := fun ρ => (f ρ).bind fun r ρ1 => Out.of (tBoolO r) ρ1
@[simp] theorem tBoolO_bl (b : Bool) : tBoolO (.val (.bl b)) = some b := rfl
theorem tv_test {e : Expr} {t : TE} {f : Env → Out Rv} (ht : PT X e (tTest t)) (w : ∀ σ H Q, tr RvR G W f σ H Q → t σ H Q) : Tv X G W e (tBl f) :=
  PTw_ ht fun σ H Q ⟨O, ρ, E, a⟩ => w σ H _ ⟨O, ρ, E, ans_in a fun r ρ1 v H1 E1 e1 r1 a1 => by
    obtain ⟨k, hk, q⟩ := ans_of a1
    unfold tBoolO at hk
    split at hk
    · cases hk
      have r1 : Rp G.K G.cv O H1 v (.bl k) := r1
      cases r1
      exact ⟨k, rfl, ans_ok q E1 (EX.refl _ _) rfl⟩
    · cases hk⟩
theorem tv_cmp {op : CmpOp} {r : R2} {g : D → D → Option D} {a b : Expr} {fa fb : Env → Out Rv} {pos : Pos} (ho : OpR X (compareOp op) r) (hg : OpG G r g) (ha : Ev X G W a fa) (hb : Ev X G W b fb) (hm : behindInMarks op b = false) : Tv X G W (.Compare a [op] [b] pos) (tBl (eBin g fa fb)) :=
  tv_test (pt_cmpR ho ha hb hm) fun σ H Q ⟨O, ρ, E, h⟩ => two_in hg E h
/-- a op b op' c -/
def eChain (g g' : D → D → Option D) (fa fb fc : Env → Out Rv) : Env → Out Rv := fun ρ => (fa ρ).bind fun x ρ1 => (fb ρ1).bind fun y ρ2 => (ap2 g x y ρ2).bind fun z ρ3 =>
  match tBoolO z with
  | some true => (fc ρ3).bind fun w ρ4 => ap2 g' y w ρ4
  | some false => .ok (.val (.bl false)) ρ3
  | none => .bad
theorem ap2_cases (g : D → D → Option D) (x y : Rv) (ρ : Env) : (∃ d e z, deref x ρ = some d ∧ deref y ρ = some e ∧ g d e = some z ∧ ap2 g x y ρ = .ok (.val z) ρ) ∨ ap2 g x y ρ = .bad := by
  unfold ap2
  cases h1 : deref x ρ with
  | none => exact .inr rfl
  | some d =>
    cases h2 : deref y ρ with
    | none => exact .inr rfl
    | some e =>
      cases h3 : g d e with
      | none => right; simp [h3]
      | some z => left; exact ⟨d, e, z, rfl, rfl, h3, by simp [h3]⟩
theorem chain_in {r r' : R2} {g g' : D → D → Option D} (hg : OpG G r g) (hg' : OpG G r' g') {fa fb fc : Env → Out Rv} {σ : L2.St} {H : Hp} {O : AS} {ρ : Env} {Q : VK} (E : ER G O σ H ρ) (h : ans RvR G O W σ H (eChain g g' fa fb fc ρ) Q) :
    tr RvR G W fa σ H fun x H1 => tr RvR G W fb σ H1 fun y H2 => r x y H2 fun z H3 => ∃ k, z = .bl k ∧ if k = true then tr RvR G W fc σ H3 fun w H4 => r' y w H4 Q else Q (.bl false) H3 := by
  refine ⟨O, ρ, E, ans_in h fun x ρ1 v H1 E1 e1 r1 a1 => ⟨O, ρ1, E1, ans_in a1 fun y ρ2 u H2 E2 e2 r2 a2 => ?_⟩⟩
  rcases ap2_cases g x y ρ2 with ⟨d, e, z, h1, h2, h3, h4⟩ | h4
  · rw [h4, Out.bind_ok] at a2
    refine hg O H2 v u d e z _ E2.dom (deref_rs E2 (r1.ex e2) h1) (deref_rs E2 r2 h2) h3 fun w H3 s r3 => ?_
    have E3 := E2.same s
    have a3 := ans_ex (EX.same (O := O) s) a2
    cases z with
    | bl k =>
      cases r3
      cases k with
      | true =>
        refine ⟨true, rfl, iteT ⟨O, ρ2, E3, ans_in (g := fun w ρ4 => ap2 g' y w ρ4) a3 fun w ρ4 vw H4 E4 e4 r4 a4 => ?_⟩⟩
        obtain ⟨d', e', z', k1, k2, k3, a5⟩ := ap2_some a4
        exact hg' O H4 u vw d' e' z' Q E4.dom (deref_rs E4 ((r2.ex (EX.same s)).ex e4) k1) (deref_rs E4 r4 k2) k3 fun w H5 s r5 => ans_ok a5 (E4.same s) (EX.same s) r5
      | false => exact ⟨false, rfl, iteF (ans_ok (R1 := RvR) (a := Rv.val (.bl false)) a3 E3 (EX.refl _ _) (Rp.bl false))⟩
    | _ => exact a3.elim
  · rw [h4] at a2; exact a2.elim
theorem ev_chain {op op' : CmpOp} {r r' : R2} {g g' : D → D → Option D} {a b c : Expr} {fa fb fc : Env → Out Rv} {pos : Pos} (ho : OpR X (compareOp op) r) (ho' : OpR X (compareOp op') r') (hg : OpG G r g) (hg' : OpG G r' g')
    (ha : Ev X G W a fa) (hb : Ev X G W b fb) (hc : Ev X G W c fc) (hm : lastMarks [op, op'] [b, c] = false := by with_unfolding_all rfl) : Ev X G W (.Compare a [op, op'] [b, c] pos) (eChain g g' fa fb fc) :=
  PEw_ (pe_chain ho ho' ha hb hc hm) fun σ H Q ⟨O, ρ, E, h⟩ => chain_in hg hg' E h
end
end EL

/-! E6: and, or, not, if; arguments, displays; calls of built-ins; subscripts. -/
namespace EL
open PySem PySem.Spec PyProof.Rows L2
section
variable {X : Cx} {G : Gr} {W : WX}
/-! ### and, or, not, .. if .. else .. -/
abbrev Wv (X : Cx) (G : Gr) (W : WX) (e : Expr) (f : Env → Out Bool) : Prop := PW X e (tr RvT G W f)
theorem Wv.tv {e : Expr} {f : Env → Out Bool} (h : Wv X G W e f) : Tv X G W e f := h.pt
def tAndB (f g : Env → Out Bool) : Env → Out Bool := fun ρ => (f ρ).bind fun b ρ1 => if b = true then g ρ1 else .ok false ρ1
def tOrB (f g : Env → Out Bool) : Env → Out Bool := fun ρ => (f ρ).bind fun b ρ1 => if b = true then .ok true ρ1 else g ρ1
def tNotB (f : Env → Out Bool) : Env → Out Bool := fun ρ => (f ρ).bind fun b ρ1 => .ok (!b) ρ1
theorem wv_and1 {a : Expr} {f : Env → Out Bool} {pos : Pos} (h : Tv X G W a f) : Wv X G W (.BoolOp .And [a] pos) f := pw_and1 h
theorem wv_or1 {a : Expr} {f : Env → Out Bool} {pos : Pos} (h : Tv X G W a f) : Wv X G W (.BoolOp .Or [a] pos) f := pw_or1 h
theorem wv_and {a b : Expr} {rest : List Expr} {f g : Env → Out Bool} {pos : Pos} (ha : Tv X G W a f) (hb : Wv X G W (.BoolOp .And (b :: rest) pos) g) : Wv X G W (.BoolOp .And (a :: b :: rest) pos) (tAndB f g) :=
  PWw_ (pw_and ha hb) fun σ H Q ⟨O, ρ, E, a⟩ => ⟨O, ρ, E, ans_in (g := fun b ρ1 => if b = true then g ρ1 else .ok false ρ1) a fun r ρ1 v H1 E1 e1 r1 a1 => by
    have r1 : v = r := r1
    subst r1
    cases v with
    | true => exact iteT ⟨O, ρ1, E1, a1⟩
    | false => exact iteF (ans_ok (R1 := RvT) (a := false) a1 E1 (EX.refl _ _) rfl)⟩
theorem wv_or {a b : Expr} {rest : List Expr} {f g : Env → Out Bool} {pos : Pos} (ha : Tv X G W a f) (hb : Wv X G W (.BoolOp .Or (b :: rest) pos) g) : Wv X G W (.BoolOp .Or (a :: b :: rest) pos) (tOrB f g) :=
  PWw_ (pw_or ha hb) fun σ H Q ⟨O, ρ, E, a⟩ => ⟨O, ρ, E, ans_in (g := fun b ρ1 => if b = true then .ok true ρ1 else g ρ1) a fun r ρ1 v H1 E1 e1 r1 a1 => by
    have r1 : v = r := r1
    subst r1
    cases v with
    | true => exact iteT (ans_ok (R1 := RvT) (a := true) a1 E1 (EX.refl _ _) rfl)
    | false => exact iteF ⟨O, ρ1, E1, a1⟩⟩
theorem tv_not {a : Expr} {f : Env → Out Bool} {pos : Pos} (ha : Tv X G W a f) : Tv X G W (.UnaryOp .Not a pos) (tNotB f) :=
  PTw_ (pt_not ha) fun σ H Q ⟨O, ρ, E, a⟩ => ⟨O, ρ, E, ans_in (g := fun b ρ1 => .ok (!b) ρ1) a fun r ρ1 v H1 E1 e1 r1 a1 => by
    have r1 : v = r := r1
    subst r1
    exact ans_ok (R1 := RvT) (a := !v) a1 E1 (EX.refl _ _) rfl⟩
/-- as values -/
def eAnd (fa fb : Env → Out Rv) : Env → Out Rv := fun ρ => (fa ρ).bind fun x ρ1 => match truR x ρ1 with
  | some true => fb ρ1
  | some false => .ok x ρ1
  | none => .bad
def eOr (fa fb : Env → Out Rv) : Env → Out Rv := fun ρ => (fa ρ).bind fun x ρ1 => match truR x ρ1 with
  | some true => .ok x ρ1
  | some false => fb ρ1
  | none => .bad
def eNot (fa : Env → Out Rv) : Env → Out Rv := fun ρ => (fa ρ).bind fun x ρ1 => Out.of ((truR x ρ1).map fun b => Rv.val (.bl (!b))) ρ1
theorem ev_one {op : BoolOp} {a : Expr} {f : Env → Out Rv} {pos : Pos} (h : Ev X G W a f) : Ev X G W (.BoolOp op [a] pos) f := pe_one h
theorem ev_and {a b : Expr} {rest : List Expr} {fa fb : Env → Out Rv} {pos : Pos} (ha : Ev X G W a fa) (hb : Ev X G W (.BoolOp .And (b :: rest) pos) fb) (hK : X.K = G.K := by rfl) : Ev X G W (.BoolOp .And (a :: b :: rest) pos) (eAnd fa fb) :=
  PEw_ (pe_andT ha hb) fun σ H Q ⟨O, ρ, E, a⟩ => ⟨O, ρ, E, ans_in (g := fun x ρ1 => match truR x ρ1 with | some true => fb ρ1 | some false => .ok x ρ1 | none => .bad) a fun r ρ1 v H1 E1 e1 r1 a1 => by
    cases q : truR r ρ1 with
    | none => rw [q] at a1; exact a1.elim
    | some k =>
      rw [q] at a1
      refine ⟨k, by rw [hK]; exact truR_tru E1 r1 q, ?_⟩
      cases k with
      | true => exact iteT ⟨O, ρ1, E1, a1⟩
      | false => exact iteF (ans_ok (R1 := RvR) (a := r) a1 E1 (EX.refl _ _) r1)⟩
theorem ev_or {a b : Expr} {rest : List Expr} {fa fb : Env → Out Rv} {pos : Pos} (ha : Ev X G W a fa) (hb : Ev X G W (.BoolOp .Or (b :: rest) pos) fb) (hK : X.K = G.K := by rfl) : Ev X G W (.BoolOp .Or (a :: b :: rest) pos) (eOr fa fb) :=
  PEw_ (pe_orT ha hb) fun σ H Q ⟨O, ρ, E, a⟩ => ⟨O, ρ, E, ans_in (g := fun x ρ1 => match truR x ρ1 with | some true => .ok x ρ1 | some false => fb ρ1 | none => .bad) a fun r ρ1 v H1 E1 e1 r1 a1 => by
    cases q : truR r ρ1 with
    | none => rw [q] at a1; exact a1.elim
    | some k =>
      rw [q] at a1
      refine ⟨k, by rw [hK]; exact truR_tru E1 r1 q, ?_⟩
      cases k with
      | true => exact iteT (ans_ok (R1 := RvR) (a := r) a1 E1 (EX.refl _ _) r1)
      | false => exact iteF ⟨O, ρ1, E1, a1⟩⟩
theorem ev_not {a : Expr} {f : Env → Out Rv} {pos : Pos} (ha : Ev X G W a f) (hK : X.K = G.K := by rfl) : Ev X G W (.UnaryOp .Not a pos) (eNot f) :=
  PEw_ (pe_notT ha) fun σ H Q ⟨O, ρ, E, a⟩ => ⟨O, ρ, E, ans_in (g := fun x ρ1 => Out.of ((truR x ρ1).map fun b => Rv.val (.bl (!b))) ρ1) a fun r ρ1 v H1 E1 e1 r1 a1 => by
    cases q : truR r ρ1 with
    | none => rw [q] at a1; exact a1.elim
    | some k =>
      rw [q] at a1
      exact ⟨k, by rw [hK]; exact truR_tru E1 r1 q, ans_ok (R1 := RvR) (a := .val (.bl (!k))) a1 E1 (EX.refl _ _) (Rp.bl _)⟩⟩
def eIf (ft : Env → Out Bool) (fa fb : Env → Out Rv) : Env → Out Rv := fun ρ => (ft ρ).bind fun b ρ1 => if b = true then fa ρ1 else fb ρ1
theorem ev_if {c a b : Expr} {ft : Env → Out Bool} {fa fb : Env → Out Rv} {pos : Pos} (hc : Tv X G W c ft) (ha : Ev X G W a fa) (hb : Ev X G W b fb) : Ev X G W (.IfExp c a b pos) (eIf ft fa fb) :=
  PEw_ (pe_ifExp hc ha hb) fun σ H Q ⟨O, ρ, E, a⟩ => ⟨O, ρ, E, ans_in (g := fun b ρ1 => if b = true then fa ρ1 else fb ρ1) a fun r ρ1 v H1 E1 e1 r1 a1 => by
    have r1 : v = r := r1
    subst r1
    cases v with
    | true => exact iteT ⟨O, ρ1, E1, a1⟩
    | false => exact iteF ⟨O, ρ1, E1, a1⟩⟩
def negO : Rv → Option D
  | .val (.int i) => some (.int (-i))
  | _ => none
@[simp] theorem negO_int (i : Int) : negO (.val (.int i)) = some (.int (-i)) := rfl
def eNeg (fa : Env → Out Rv) : Env → Out Rv := fun ρ => (fa ρ).bind fun x ρ1 => Out.of ((negO x).map Rv.val) ρ1
theorem ev_neg {a : Expr} {f : Env → Out Rv} {pos : Pos} (ha : Ev X G W a f) : Ev X G W (.UnaryOp .USub a pos) (eNeg f) :=
  PEw_ (pe_un un_neg ha) fun σ H Q ⟨O, ρ, E, a⟩ => ⟨O, ρ, E, ans_in (g := fun x ρ1 => Out.of ((negO x).map Rv.val) ρ1) a fun r ρ1 v H1 E1 e1 r1 a1 => by
    obtain ⟨z, hz, q⟩ := ans_of a1
    cases h1 : negO r with
    | none => rw [h1] at hz; cases hz
    | some d =>
      rw [h1] at hz; cases hz
      unfold negO at h1
      split at h1
      · rename_i i
        cases h1
        have r1 : Rp G.K G.cv O H1 v (.int i) := r1
        cases r1
        exact ⟨i, rfl, ans_ok (R1 := RvR) (a := Rv.val (.int (-i))) q E1 (EX.refl _ _) (Rp.int _)⟩
      · cases h1⟩

/-! ### arguments, displays -/
def aNil : Env → Out (List Rv) := fun ρ => .ok [] ρ
def aCons (fa : Env → Out Rv) (fr : Env → Out (List Rv)) : Env → Out (List Rv) := fun ρ => (fa ρ).bind fun x ρ1 => (fr ρ1).bind fun xs ρ2 => .ok (x :: xs) ρ2
theorem av_nil : Av X G W [] aNil := PAw_ pa_nil fun σ H Q ⟨O, ρ, E, a⟩ => ans_ok (R1 := RvA) (a := []) a E (EX.refl _ _) .nil
theorem av_cons {e : Expr} {es : List Expr} {fa : Env → Out Rv} {fr : Env → Out (List Rv)} (ha : Ev X G W e fa) (hr : Av X G W es fr) (hs : starEach (e :: es) X.env = (false, eval e X.env) :: starEach es X.env := by rfl) : Av X G W (e :: es) (aCons fa fr) :=
  PAw_ (pa_cons ha hr hs) fun σ H Q ⟨O, ρ, E, a⟩ => ⟨O, ρ, E, ans_in (g := fun x ρ1 => (fr ρ1).bind fun xs ρ2 => .ok (x :: xs) ρ2) a fun r ρ1 v H1 E1 e1 r1 a1 => ⟨O, ρ1, E1, ans_in (g := fun xs ρ2 => .ok (r :: xs) ρ2) a1 fun rs ρ2 vs H2 E2 e2 r2 a2 =>
    ans_ok (R1 := RvA) (a := r :: rs) a2 E2 (EX.refl _ _) (.cons (r1.ex e2) r2)⟩⟩
def storeL (rs : List Rv) : Option (List D) := (storeAll rs).bind fun ds => if ds.length ≤ 1000 then some ds else none
theorem storeL_some {rs ds} (h : storeL rs = some ds) : storeAll rs = some ds ∧ ds.length ≤ 1000 := by
  unfold storeL at h
  cases q : storeAll rs with
  | none => rw [q] at h; cases h
  | some es =>
    rw [q] at h
    simp only [Option.bind_some] at h
    split at h
    · rename_i hz; cases h; exact ⟨rfl, hz⟩
    · cases h
def eTup (fr : Env → Out (List Rv)) : Env → Out Rv := fun ρ => (fr ρ).bind fun rs ρ1 => Out.of ((storeL rs).map fun ds => Rv.val (.tup ds)) ρ1
def eLst (fr : Env → Out (List Rv)) : Env → Out Rv := fun ρ => (fr ρ).bind fun rs ρ1 => Out.of ((storeL rs).map fun ds => Rv.val (.lst ds)) ρ1
theorem ev_tup {es : List Expr} {fr : Env → Out (List Rv)} {x1} {pos : Pos} (h : Av X G W es fr) : Ev X G W (.Tuple es x1 pos) (eTup fr) :=
  PEw_ (pe_tup h) fun σ H Q ⟨O, ρ, E, a⟩ => ⟨O, ρ, E, ans_in (g := fun rs ρ1 => Out.of ((storeL rs).map fun ds => Rv.val (.tup ds)) ρ1) a fun rs ρ1 vs H1 E1 e1 r1 a1 => by
    obtain ⟨z, hz, q⟩ := ans_of a1
    cases h1 : storeL rs with
    | none => rw [h1] at hz; cases hz
    | some ds =>
      rw [h1] at hz; cases hz
      obtain ⟨h2, h3⟩ := storeL_some h1
      have r2 := r1.all h2
      refine ⟨by rw [r2.len, sizeLine_eq]; omega, fun p hp => ?_⟩
      exact ans_ok (R1 := RvR) (a := .val (.tup ds)) q (E1.new hp) (EX.new hp) (rp_newT hp r2)⟩
theorem ev_lst {es : List Expr} {fr : Env → Out (List Rv)} {pos : Pos} (h : Av X G W es fr) : Ev X G W (.List es pos) (eLst fr) :=
  PEw_ (pe_lst h) fun σ H Q ⟨O, ρ, E, a⟩ => ⟨O, ρ, E, ans_in (g := fun rs ρ1 => Out.of ((storeL rs).map fun ds => Rv.val (.lst ds)) ρ1) a fun rs ρ1 vs H1 E1 e1 r1 a1 => by
    obtain ⟨z, hz, q⟩ := ans_of a1
    cases h1 : storeL rs with
    | none => rw [h1] at hz; cases hz
    | some ds =>
      rw [h1] at hz; cases hz
      obtain ⟨h2, h3⟩ := storeL_some h1
      have r2 := r1.all h2
      refine ⟨by rw [r2.len, sizeLine_eq]; omega, fun p hp => ?_⟩
      exact ans_ok (R1 := RvR) (a := .val (.lst ds)) q (E1.new hp) (EX.new hp) (rp_newL E1.dom hp r2)⟩

/-! ### calls by values -/
inductive RsA (G : Gr) (O : AS) (H : Hp) : List V → List D → Prop
  | nil : RsA G O H [] []
  | cons {v : V} {vs : List V} {d : D} {ds : List D} : Rs G O H v d → RsA G O H vs ds → RsA G O H (v :: vs) (d :: ds)
def derefAll : List Rv → Env → Option (List D)
  | [], _ => some []
  | r :: rs, ρ => match deref r ρ, derefAll rs ρ with
    | some d, some ds => some (d :: ds)
    | _, _ => none
@[simp] theorem derefAll_nil (ρ : Env) : derefAll [] ρ = some [] := rfl
@[simp] theorem derefAll_cons (r : Rv) (rs : List Rv) (ρ : Env) : derefAll (r :: rs) ρ = match deref r ρ, derefAll rs ρ with
    | some d, some ds => some (d :: ds)
    | _, _ => none := rfl
theorem derefAll_rs {O σ H ρ} (E : ER G O σ H ρ) {vs : List V} {rs : List Rv} (h : RvA G O σ H vs rs) : ∀ {ds : List D}, derefAll rs ρ = some ds → RsA G O H vs ds := by
  induction h with
  | nil => intro ds e; cases e; exact .nil
  | @cons v vs r rs h _ ih =>
    intro ds e
    rw [derefAll_cons] at e
    cases h1 : deref r ρ with
    | none => rw [h1] at e; cases e
    | some d =>
      cases h2 : derefAll rs ρ with
      | none => rw [h1, h2] at e; cases e
      | some es => rw [h1, h2] at e; cases e; exact .cons (deref_rs E h h1) (ih h2)
def CaG (G : Gr) (r : List V → Hp → VK → Prop) (g : List D → Option D) : Prop := ∀ (O : AS) (H : Hp) (xs : List V) (ds : List D) (z : D) (Q : VK), (∀ a, O.av a → H a ≠ none) → RsA G O H xs ds → g ds = some z →
  (∀ v H', (∀ b o, H b = some o → H' b = some o) → Rp G.K G.cv O H' v z → Q v H') → r xs H Q
def eCallV (g : List D → Option D) (fr : Env → Out (List Rv)) : Env → Out Rv := fun ρ => (fr ρ).bind fun rs ρ1 => Out.of (((derefAll rs ρ1).bind g).map Rv.val) ρ1
theorem callV_in {r : List V → Hp → VK → Prop} {g : List D → Option D} (hg : CaG G r g) {fr : Env → Out (List Rv)} {σ : L2.St} {H : Hp} {O : AS} {ρ : Env} {Q : VK} (E : ER G O σ H ρ) (h : ans RvR G O W σ H (eCallV g fr ρ) Q) :
    tr RvA G W fr σ H fun xs H1 => r xs H1 Q := by
  refine ⟨O, ρ, E, ans_in (g := fun rs ρ1 => Out.of (((derefAll rs ρ1).bind g).map Rv.val) ρ1) h fun rs ρ1 vs H1 E1 e1 r1 a1 => ?_⟩
  obtain ⟨z, hz, q⟩ := ans_of a1
  cases h1 : derefAll rs ρ1 with
  | none => rw [h1] at hz; cases hz
  | some ds =>
    rw [h1] at hz
    cases h2 : g ds with
    | none => rw [Option.bind_some, h2] at hz; cases hz
    | some d =>
      rw [Option.bind_some, h2] at hz; cases hz
      exact hg O H1 vs ds d Q E1.dom (derefAll_rs E1 r1 h1) h2 fun v H2 s r2 => ans_ok (R1 := RvR) (a := .val d) q (E1.same s) (EX.same s) r2
theorem ev_callB {x : Str} {p pos : Pos} {e : Expr} {es : List Expr} {id : String} {r : List V → Hp → VK → Prop} {g : List D → Option D} {fr : Env → Out (List Rv)} (hc : CallR X (.builtin id) r) (hg : CaG G r g) (hgl : Gl X x) (hm : X.mg x = none)
    (hv : bootBuiltins x = some (.builtin id)) (ha : Av X G W (e :: es) fr) (hn : x ≠ "__name__" := by decide) (hdb : (x == ("__debug__" : Str)) = false := by decide)
    (he : starEach (e :: es) X.env = (false, eval e X.env) :: starEach es X.env := by rfl) (hpl : (backTo pos (starEach es X.env)).any (·.1) = false := by rfl) : Ev X G W (.Call (.Name x p) (e :: es) [] pos) (eCallV g fr) :=
  PEw_ (pe_callB hc hgl hm hv ha hn hdb he hpl) fun σ H Q ⟨O, ρ, E, a⟩ => callV_in hg E a
theorem ev_callTy {x : Str} {p pos : Pos} {e : Expr} {es : List Expr} {T : String} {r : List V → Hp → VK → Prop} {g : List D → Option D} {fr : Env → Out (List Rv)} (hc : CallR X (.type T) r) (hg : CaG G r g) (hgl : Gl X x) (hm : X.mg x = none)
    (hv : bootBuiltins x = some (.type T)) (ha : Av X G W (e :: es) fr) (hn : x ≠ "__name__" := by decide) (hdb : (x == ("__debug__" : Str)) = false := by decide)
    (he : starEach (e :: es) X.env = (false, eval e X.env) :: starEach es X.env := by rfl) (hpl : (backTo pos (starEach es X.env)).any (·.1) = false := by rfl) : Ev X G W (.Call (.Name x p) (e :: es) [] pos) (eCallV g fr) :=
  PEw_ (pe_callTy hc hgl hm hv ha hn hdb he hpl) fun σ H Q ⟨O, ρ, E, a⟩ => callV_in hg E a
theorem rsa1 {O H vs d} (h : RsA G O H vs [d]) : ∃ v, vs = [v] ∧ Rs G O H v d := by
  cases h with
  | cons h t => cases t; exact ⟨_, rfl, h⟩
theorem rsa2 {O H vs d e} (h : RsA G O H vs [d, e]) : ∃ v w, vs = [v, w] ∧ Rs G O H v d ∧ Rs G O H w e := by
  cases h with
  | cons h t =>
    cases t with
    | cons h2 t => cases t; exact ⟨_, _, rfl, h, h2⟩

/-! ### len -/
def lenD : List D → Option D
  | [.tup xs] => some (.int xs.length)
  | [.lst xs] => some (.int xs.length)
  | [.str x] => if x.length ≤ 16777216 then some (.int x.length) else none
  | _ => none
theorem cg_len : CaG G (fun xs H Q => ∃ x n, xs = [x] ∧ LenV G.K x H n ∧ Q (.int n) H) lenD := fun O H xs ds z Q hd hx hg q => by
  unfold lenD at hg
  split at hg
  · cases hg
    obtain ⟨v, rfl, h⟩ := rsa1 hx
    obtain ⟨a, us, rfl, h1, r⟩ := rs_tup h
    exact ⟨_, _, rfl, .inr ⟨us, h1, r.len.symm⟩, q _ H (fun _ _ h => h) (.int _)⟩
  · cases hg
    obtain ⟨v, rfl, h⟩ := rsa1 hx
    obtain ⟨a, us, rfl, h1, r⟩ := h
    exact ⟨_, _, rfl, .inl ⟨us, h1, r.len.symm⟩, q _ H (fun _ _ h => h) (.int _)⟩
  · split at hg
    · rename_i hz
      cases hg
      obtain ⟨v, rfl, h⟩ := rsa1 hx
      rw [rs_str h]
      exact ⟨_, _, rfl, ⟨by rw [sizeLine_eq]; exact hz, rfl⟩, q _ H (fun _ _ h => h) (.int _)⟩
    · cases hg
  · cases hg
/-! ### all, any -/
def blsOf : List D → Option (List Bool)
  | [] => some []
  | .bl i :: r => (blsOf r).map (i :: ·)
  | _ :: _ => none
@[simp] theorem blsOf_nil : blsOf [] = some [] := rfl
@[simp] theorem blsOf_cons (i : Bool) (r : List D) : blsOf (.bl i :: r) = (blsOf r).map (i :: ·) := rfl
theorem blsOf_map (ns : List Bool) : blsOf (ns.map D.bl) = some ns := by
  induction ns with
  | nil => rfl
  | cons n ns ih => rw [List.map_cons, blsOf_cons, ih]; rfl
theorem blsOf_some : ∀ {xs : List D} {ns : List Bool}, blsOf xs = some ns → xs = ns.map D.bl
  | [], ns, h => by cases h; rfl
  | d :: r, ns, h => by
    cases d with
    | bl i =>
      rw [blsOf_cons] at h
      cases q : blsOf r with
      | none => rw [q] at h; cases h
      | some ms => rw [q] at h; cases h; rw [blsOf_some q]; rfl
    | _ => cases h
theorem rpa_bls {O H} : ∀ {us : List V} {ns : List Bool}, RpA G.K G.cv O H us (ns.map D.bl) → us = ns.map V.bl
  | _, [], r => by cases r; rfl
  | _, n :: ns, r => by
    rw [List.map_cons] at r
    cases r with
    | cons h r => cases h; rw [rpa_bls r]; rfl
def allD : List D → Option D
  | [.lst xs] => (blsOf xs).map fun bs => .bl (bs.all id)
  | _ => none
def anyD : List D → Option D
  | [.lst xs] => (blsOf xs).map fun bs => .bl (bs.any id)
  | _ => none
theorem cg_all : CaG G (rAll G.K) allD := fun O H xs ds z Q hd hx hg q => by
  unfold allD at hg
  split at hg
  · rename_i ys
    cases h1 : blsOf ys with
    | none => rw [h1] at hg; cases hg
    | some bs =>
      rw [h1] at hg; cases hg
      obtain ⟨v, rfl, h⟩ := rsa1 hx
      obtain ⟨a, us, rfl, h2, r⟩ := h
      rw [blsOf_some h1] at r
      rw [rpa_bls r] at h2
      exact ⟨a, bs, rfl, h2, q _ H (fun _ _ h => h) (.bl _)⟩
  · cases hg
theorem cg_any : CaG G (rAny G.K) anyD := fun O H xs ds z Q hd hx hg q => by
  unfold anyD at hg
  split at hg
  · rename_i ys
    cases h1 : blsOf ys with
    | none => rw [h1] at hg; cases hg
    | some bs =>
      rw [h1] at hg; cases hg
      obtain ⟨v, rfl, h⟩ := rsa1 hx
      obtain ⟨a, us, rfl, h2, r⟩ := h
      rw [blsOf_some h1] at r
      rw [rpa_bls r] at h2
      exact ⟨a, bs, rfl, h2, q _ H (fun _ _ h => h) (.bl _)⟩
  · cases hg
/-! ### min, max of two -/
def min2D : List D → Option D
  | [.int i, .int j] => some (.int (if j < i then j else i))
  | _ => none
def max2D : List D → Option D
  | [.int i, .int j] => some (.int (if j > i then j else i))
  | _ => none
theorem cg_min2 : CaG G (fun xs H Q => ∃ i j, xs = [.int i, .int j] ∧ Q (.int (if j < i then j else i)) H) min2D := fun O H xs ds z Q hd hx hg q => by
  unfold min2D at hg
  split at hg
  · cases hg
    obtain ⟨v, w, rfl, h1, h2⟩ := rsa2 hx
    rw [rs_int h1, rs_int h2]
    exact ⟨_, _, rfl, q _ H (fun _ _ h => h) (.int _)⟩
  · cases hg
theorem cg_max2 : CaG G (fun xs H Q => ∃ i j, xs = [.int i, .int j] ∧ Q (.int (if j > i then j else i)) H) max2D := fun O H xs ds z Q hd hx hg q => by
  unfold max2D at hg
  split at hg
  · cases hg
    obtain ⟨v, w, rfl, h1, h2⟩ := rsa2 hx
    rw [rs_int h1, rs_int h2]
    exact ⟨_, _, rfl, q _ H (fun _ _ h => h) (.int _)⟩
  · cases hg
/-! ### int, bool, str, tuple, list -/
def intD : List D → Option D
  | [.int i] => some (.int i)
  | [.bl b] => some (.int (if b then 1 else 0))
  | [.str x] => if x.length ≤ 640 then (PySem.intText? x).map .int else none
  | _ => none
theorem int_ok : CallR X (.type "int") (fun xs H Q => ((∃ i, xs = [.int i] ∧ Q (.int i) H) ∨ ∃ k, xs = [.bl k] ∧ Q (.int (if k then 1 else 0)) H) ∨ ∃ a n, xs = [.str a] ∧ PySem.intText? a = some n ∧ a.length ≤ 640 ∧ Q (.int n) H) := call_int1.or call_int_str
theorem cg_int : CaG G (fun xs H Q => ((∃ i, xs = [.int i] ∧ Q (.int i) H) ∨ ∃ k, xs = [.bl k] ∧ Q (.int (if k then 1 else 0)) H) ∨ ∃ a n, xs = [.str a] ∧ PySem.intText? a = some n ∧ a.length ≤ 640 ∧ Q (.int n) H) intD := fun O H xs ds z Q hd hx hg q => by
  unfold intD at hg
  split at hg
  · cases hg
    obtain ⟨v, rfl, h⟩ := rsa1 hx
    rw [rs_int h]
    exact .inl (.inl ⟨_, rfl, q _ H (fun _ _ h => h) (.int _)⟩)
  · cases hg
    obtain ⟨v, rfl, h⟩ := rsa1 hx
    rw [rs_bl h]
    exact .inl (.inr ⟨_, rfl, q _ H (fun _ _ h => h) (.int _)⟩)
  · rename_i x
    split at hg
    · rename_i hz
      cases h1 : PySem.intText? x with
      | none => rw [h1] at hg; cases hg
      | some n =>
        rw [h1] at hg; cases hg
        obtain ⟨v, rfl, h⟩ := rsa1 hx
        rw [rs_str h]
        exact .inr ⟨_, _, rfl, h1, hz, q _ H (fun _ _ h => h) (.int _)⟩
    · cases hg
  · cases hg
def boolD : List D → Option D
  | [.int i] => some (.bl (i != 0))
  | [.bl b] => some (.bl b)
  | _ => none
theorem cg_bool : CaG G (fun xs H Q => (∃ i, xs = [.int i] ∧ Q (.bl (i != 0)) H) ∨ ∃ k, xs = [.bl k] ∧ Q (.bl k) H) boolD := fun O H xs ds z Q hd hx hg q => by
  unfold boolD at hg
  split at hg
  · cases hg
    obtain ⟨v, rfl, h⟩ := rsa1 hx
    rw [rs_int h]
    exact .inl ⟨_, rfl, q _ H (fun _ _ h => h) (.bl _)⟩
  · cases hg
    obtain ⟨v, rfl, h⟩ := rsa1 hx
    rw [rs_bl h]
    exact .inr ⟨_, rfl, q _ H (fun _ _ h => h) (.bl _)⟩
  · cases hg
def tupleD : List D → Option D
  | [.lst xs] => some (.tup xs)
  | [.tup xs] => some (.tup xs)
  | _ => none
def listD : List D → Option D
  | [.lst xs] => some (.lst xs)
  | [.tup xs] => some (.lst xs)
  | _ => none
theorem cg_tuple : CaG G (fun xs H Q => ∃ p ys, xs = [.ref p] ∧ ((SqL G.K H p ys ∧ ∀ l, H l = none → Q (.ref l) (upd H l (.tup ys))) ∨ (SqT G.K H p ys ∧ Q (.ref p) H))) tupleD := fun O H xs ds z Q hd hx hg q => by
  unfold tupleD at hg
  split at hg
  · cases hg
    obtain ⟨v, rfl, h⟩ := rsa1 hx
    obtain ⟨a, us, rfl, h1, r⟩ := h
    exact ⟨a, us, rfl, .inl ⟨h1, fun l hl => q _ _ (upd_new hl) (rp_newT hl r)⟩⟩
  · cases hg
    obtain ⟨v, rfl, h⟩ := rsa1 hx
    obtain ⟨a, us, rfl, h1, r⟩ := rs_tup h
    exact ⟨a, us, rfl, .inr ⟨h1, q _ H (fun _ _ h => h) (.tup h1 r)⟩⟩
  · cases hg
theorem cg_list : CaG G (fun xs H Q => ∃ p ys, xs = [.ref p] ∧ (SqL G.K H p ys ∨ SqT G.K H p ys) ∧ ∀ l, H l = none → Q (.ref l) (upd H l (.lst ys))) listD := fun O H xs ds z Q hd hx hg q => by
  unfold listD at hg
  split at hg
  · cases hg
    obtain ⟨v, rfl, h⟩ := rsa1 hx
    obtain ⟨a, us, rfl, h1, r⟩ := h
    exact ⟨a, us, rfl, .inl h1, fun l hl => q _ _ (upd_new hl) (rp_newL hd hl r)⟩
  · cases hg
    obtain ⟨v, rfl, h⟩ := rsa1 hx
    obtain ⟨a, us, rfl, h1, r⟩ := rs_tup h
    exact ⟨a, us, rfl, .inr h1, fun l hl => q _ _ (upd_new hl) (rp_newL hd hl r)⟩
  · cases hg
end
end EL

/-! E7: isinstance, sorted, subscripts, slices. -/
namespace EL
open PySem PySem.Spec PyProof.Rows L2
section
variable {X : Cx} {G : Gr} {W : WX}
/-! ### isinstance(x, T), T a built-in -/
def tyOf : D → Option String
  | .non => some "NoneType"
  | .bl _ => some "bool"
  | .int _ => some "int"
  | .str _ => some "str"
  | .tup _ => some "tuple"
  | .lst _ => some "list"
  | _ => none
def isiD (T : String) (d : D) : Option D := (tyOf d).bind fun S => (kitB S T).map .bl
theorem isiD_some {T : String} {d z : D} (h : isiD T d = some z) : ∃ S b, tyOf d = some S ∧ kitB S T = some b ∧ z = .bl b := by
  unfold isiD at h
  cases h1 : tyOf d with
  | none => rw [h1] at h; cases h
  | some S =>
    rw [h1, Option.bind_some] at h
    cases h2 : kitB S T with
    | none => rw [h2] at h; cases h
    | some b => rw [h2] at h; cases h; exact ⟨S, b, rfl, h2, rfl⟩
theorem rs_ty {O H v d S} (h : Rs G O H v d) (e : tyOf d = some S) : TyX G.K H v (.type S) := by
  cases d with
  | non => cases rs_non h; cases e; exact .base .non
  | bl b => cases rs_bl h; cases e; exact .base (.bl b)
  | int i => cases rs_int h; cases e; exact .base (.int i)
  | str x => cases rs_str h; cases e; exact .base (.str x)
  | ref a => cases e
  | ins c fs => cases e
  | tup xs =>
    cases e
    obtain ⟨a, us, rfl, h1, _⟩ := rs_tup h
    rcases h1 with (h1 | ⟨o, h1⟩) | ⟨o, its, n, h1, h2, _⟩
    · exact .base (.tup h1)
    · exact .fTuple h1
    · exact .kTuple h1 h2
  | lst xs =>
    cases e
    obtain ⟨a, us, rfl, h1, _⟩ := h
    rcases h1 with (h1 | ⟨o, h1⟩) | ⟨o, its, n, h1, h2, _⟩
    · exact .base (.lst h1)
    · exact .base (.frz h1)
    · exact .kList h1 h2
def eIsi (T : String) (f : Env → Out Rv) : Env → Out Rv := fun ρ => (f ρ).bind fun r ρ1 => Out.of (((deref r ρ1).bind (isiD T)).map Rv.val) ρ1
theorem ev_isi {T : String} {x : Str} {e : Expr} {f : Env → Out Rv} {p p2 pos : Pos} (h : Ev X G W e f) (hg : Gl X "isinstance") (hm : X.mg "isinstance" = none) (hgT : Gl X x) (hmT : X.mg x = none) (hvT : bootBuiltins x = some (.type T))
    (hb : bootBuiltins ("isinstance" : Str) = some (.builtin "isinstance") := by decide +kernel) (hK : X.K = G.K := by rfl) (hn : x ≠ "__name__" := by decide) (hdb : (x == ("__debug__" : Str)) = false := by decide)
    (hs : starEach [e, .Name x p2] X.env = (false, eval e X.env) :: starEach [.Name x p2] X.env := by rfl) (hs2 : starEach [.Name x p2] X.env = (false, eval (.Name x p2) X.env) :: starEach [] X.env := by rfl)
    (hpl : (backTo pos (starEach [.Name x p2] X.env)).any (·.1) = false := by rfl) : Ev X G W (.Call (.Name "isinstance" p) [e, .Name x p2] [] pos) (eIsi T f) :=
  PEw_ (pe_callB (call_isi (X := X)) hg hm hb (pa_cons h (pa_cons (pe_bltn (v := .ty T) hgT hmT hvT rfl hn hdb) pa_nil hs2) hs) (by decide) (by decide) hs hpl) fun σ H Q ⟨O, ρ, E, a⟩ =>
    ⟨O, ρ, E, ans_in (g := fun r ρ1 => Out.of (((deref r ρ1).bind (isiD T)).map Rv.val) ρ1) a fun r ρ1 v H1 E1 e1 r1 a1 => by
      obtain ⟨z, hz, q⟩ := ans_of a1
      cases h1 : deref r ρ1 with
      | none => rw [h1] at hz; cases hz
      | some d =>
        rw [h1, Option.bind_some] at hz
        cases h2 : isiD T d with
        | none => rw [h2] at hz; cases hz
        | some z' =>
          rw [h2] at hz; cases hz
          obtain ⟨S, b, h3, h4, rfl⟩ := isiD_some h2
          exact ⟨v, .ty T, .type S, .type T, b, rfl, .ty T, by rw [hK]; exact rs_ty (deref_rs E1 r1 h1) h3, kit_ty h4, ans_ok (R1 := RvR) (a := Rv.val (.bl b)) q E1 (EX.refl _ _) (Rp.bl b)⟩⟩

/-! ### sorted -/
def isTupNE : D → Bool
  | .tup (_ :: _) => true
  | _ => false
def noTupN : D → Bool
  | .tup _ => false
  | .non => false
  | _ => true
def okSort (ds : List D) : Bool := ds.all (okd 60) && (ds.all fun d => ds.all fun e => PySem.W.alike (toP d) (toP e)) && (ds.all isTupNE || ds.all noTupN) && decide (ds.length ≤ 16777216)
def sortD (ds : List D) : List D := ds.mergeSort (PySem.W.dataLe false toP)
def sortedD : List D → Option D
  | [.lst xs] => if okSort xs = true then some (.lst (sortD xs)) else none
  | [.tup xs] => none
  | _ => none
theorem vals_rpa {O H} {us : List V} : ∀ {ds : List D} {its : List Value}, RpA G.K G.cv O H us ds → Vals us its → PySem.W.EachIs (fun u d => ∃ v, RelV v u ∧ Rp G.K G.cv O H v d) its ds := by
  induction us with
  | nil => intro ds its r v; cases r; cases v; exact .nil
  | cons x us ih =>
    intro ds its r v
    cases r with
    | cons h r =>
      cases v with
      | cons h2 v => exact .cons ⟨x, h2, h⟩ (ih r v)
theorem rpa_vals {O H} : ∀ {ds : List D} {its : List Value}, PySem.W.EachIs (fun u d => ∃ v, RelV v u ∧ Rp G.K G.cv O H v d) its ds → ∃ us, Vals us its ∧ RpA G.K G.cv O H us ds
  | _, _, .nil => ⟨[], .nil, .nil⟩
  | _, _, .cons ⟨v, h1, h2⟩ t => by
    obtain ⟨us, k1, k2⟩ := rpa_vals t
    exact ⟨v :: us, .cons h1 k1, .cons h2 k2⟩
theorem reads_each {pins : List (Addr × Obj)} {s : Shared} {σ : L2.St} {H : Hp} {O : AS} (I : Inv X pins σ H s) (hK : X.K = G.K) {us : List V} : ∀ {ds : List D} {its : List Value}, RpA G.K G.cv O H us ds → Vals us its → ds.all (okd 60) = true →
    PySem.W.EachIs (fun u d => ∃ as, Reads s.heap u (toP d) as) its ds := by
  induction us with
  | nil => intro ds its r v _; cases r; cases v; exact .nil
  | cons x us ih =>
    intro ds its r v k
    cases r with
    | cons h r =>
      cases v with
      | cons h2 v =>
        rw [List.all_cons, Bool.and_eq_true] at k
        refine .cons ?_ (ih r v k.2)
        exact Dp.reads I _ _ _ (by rw [hK]; exact h.dp (okd_plain _ _ k.1).1) h2
theorem okSort_spec {ds : List D} (h : okSort ds = true) : ds.all (okd 60) = true ∧ PySem.W.AllAlike (ds.map toP) ∧ PySem.W.Sortable (ds.map toP) ∧ ds.length ≤ sizeLine := by
  unfold okSort at h
  simp only [Bool.and_eq_true, Bool.or_eq_true, decide_eq_true_eq] at h
  obtain ⟨⟨⟨h1, h2⟩, h3⟩, h4⟩ := h
  refine ⟨h1, ?_, ?_, by rw [sizeLine_eq]; exact h4⟩
  · intro d hd d' hd'
    obtain ⟨b, hb, rfl⟩ := List.mem_map.mp hd
    obtain ⟨b', hb', rfl⟩ := List.mem_map.mp hd'
    rw [List.all_eq_true] at h2
    have := h2 b hb
    rw [List.all_eq_true] at this
    exact this b' hb'
  · rcases h3 with h3 | h3
    · refine .inl fun d hd => ?_
      obtain ⟨b, hb, rfl⟩ := List.mem_map.mp hd
      have := List.all_eq_true.mp h3 b hb
      cases b with
      | tup xs =>
        cases xs with
        | nil => cases this
        | cons x xs => exact ⟨toP x, toPs xs, rfl⟩
      | _ => cases this
    · refine .inr fun d hd => ?_
      obtain ⟨b, hb, rfl⟩ := List.mem_map.mp hd
      have k1 := List.all_eq_true.mp h1 b hb
      have := List.all_eq_true.mp h3 b hb
      cases b with
      | tup xs => cases this
      | non => cases this
      | bl _ => simp [toP]
      | int _ => simp [toP]
      | str _ => simp [toP]
      | lst _ => simp [toP]
      | ins _ _ => cases k1
      | ref _ => cases k1
def rSortG (G : Gr) : List V → Hp → VK → Prop := fun xs H Q => ∃ (O : AS) (a : Addr) (us : List V) (ds : List D), xs = [.ref a] ∧ SqL G.K H a us ∧ RpA G.K G.cv O H us ds ∧ okSort ds = true ∧
  ∀ p us', H p = none → RpA G.K G.cv O H us' (sortD ds) → Q (.ref p) (upd H p (.lst us'))
theorem call_sortG (hK : X.K = G.K) (hu : X.A.units + 64 < cLine) : CallR X (.builtin "sorted") (rSortG G) := by
  intro pins s σ H xs us Q I r h
  obtain ⟨O, a, vs, ds, rfl, h1, h2, h3, q⟩ := h
  rw [Vals.ref1 r]
  obtain ⟨its, rv, pl, hz⟩ := I.list (by rw [hK]; exact h1)
  obtain ⟨k1, k2, k3, k4⟩ := okSort_spec h3
  refine PySem.W.sorted_data (enc := toP) pl.isList (vals_rpa (O := O) h2 rv) (reads_each I hK h2 rv k1) k2 k3 k4 (fun b hb => ?_) fun out ho eo => ?_
  · have := (okd_plain _ _ (List.all_eq_true.mp k1 b hb)).2.2
    omega
  · obtain ⟨us', e1, e2⟩ := rpa_vals eo
    obtain ⟨c, hc⟩ := sortedAll_at s.heap its out.toArray
    have hn : H (s.heap.objs.size + 1) = none := I.hok.fresh (Nat.le_succ _)
    have hl : us'.length ≤ sizeLine := by rw [e1.length, ho]; exact k4
    exact ⟨.ref (s.heap.objs.size + 1), _, I.laid (t' := s.toks) (o := .lst us') (fun b o e => sortedAll_old e) (Nat.le_succ _) ⟨hl, out, c, e1, hc⟩, rfl, q _ us' hn e2⟩
theorem cg_sorted : CaG G (rSortG G) sortedD := fun O H xs ds z Q hd hx hg q => by
  unfold sortedD at hg
  split at hg
  · rename_i ys
    split at hg
    · rename_i hs
      cases hg
      obtain ⟨v, rfl, h⟩ := rsa1 hx
      obtain ⟨a, us, rfl, h1, r⟩ := h
      exact ⟨O, a, us, _, rfl, h1, r, hs, fun p us' hp r' => q _ _ (upd_new hp) (rp_newL hd hp r')⟩
    · cases hg
  · cases hg
  · cases hg
/-- max, min, sum of a list of ints -/
def maxL : Int → List Int → Int
  | m, [] => m
  | m, n :: r => maxL (if m < n then n else m) r
theorem maxL_mem : ∀ (m : Int) (ns : List Int), maxL m ns = m ∨ maxL m ns ∈ ns
  | m, [] => .inl rfl
  | m, n :: r => by
    unfold maxL
    rcases maxL_mem (if m < n then n else m) r with h | h
    · rw [h]; split
      · exact .inr (List.mem_cons_self)
      · exact .inl rfl
    · exact .inr (List.mem_cons_of_mem _ h)
theorem maxL_ge : ∀ (m : Int) (ns : List Int), m ≤ maxL m ns ∧ ∀ n ∈ ns, n ≤ maxL m ns
  | m, [] => ⟨Int.le_refl _, fun _ h => nomatch h⟩
  | m, n :: r => by
    have e : maxL m (n :: r) = maxL (if m < n then n else m) r := rfl
    rw [e]
    obtain ⟨h1, h2⟩ := maxL_ge (if m < n then n else m) r
    have h3 : m ≤ (if m < n then n else m) ∧ n ≤ (if m < n then n else m) := by split <;> omega
    constructor
    · omega
    · intro k hk
      rcases List.mem_cons.mp hk with rfl | hk
      · omega
      · exact h2 k hk
def maxD : List D → Option D
  | [.lst xs] => match intsOf xs with
    | some (m :: r) => some (.int (maxL m r))
    | _ => none
  | _ => none
def sumD : List D → Option D
  | [.lst xs] => (intsOf xs).map fun ns => .int ns.sum
  | _ => none
theorem cg_max : CaG G (rMax G.K) maxD := fun O H xs ds z Q hd hx hg q => by
  unfold maxD at hg
  split at hg
  · rename_i ys
    split at hg
    · rename_i m r h1
      cases hg
      obtain ⟨v, rfl, h⟩ := rsa1 hx
      obtain ⟨a, us, rfl, h2, rr⟩ := h
      rw [intsOf_some h1] at rr
      rw [rpa_ints rr] at h2
      refine ⟨a, m :: r, rfl, h2, by simp, fun k hk hle => ?_⟩
      have e : k = maxL m r := by
        have h3 := hle (maxL m r) (by
          rcases maxL_mem m r with h | h
          · rw [h]; exact List.mem_cons_self
          · exact List.mem_cons_of_mem _ h)
        have h4 : k ≤ maxL m r := by
          rcases List.mem_cons.mp hk with rfl | hk
          · exact (maxL_ge _ r).1
          · exact (maxL_ge m r).2 k hk
        omega
      rw [e]
      exact q _ H (fun _ _ h => h) (.int _)
    · cases hg
  · cases hg
theorem cg_sum : CaG G (rSum G.K) sumD := fun O H xs ds z Q hd hx hg q => by
  unfold sumD at hg
  split at hg
  · rename_i ys
    cases h1 : intsOf ys with
    | none => rw [h1] at hg; cases hg
    | some ns =>
      rw [h1] at hg; cases hg
      obtain ⟨v, rfl, h⟩ := rsa1 hx
      obtain ⟨a, us, rfl, h2, rr⟩ := h
      rw [intsOf_some h1] at rr
      rw [rpa_ints rr] at h2
      exact ⟨a, ns, rfl, h2, q _ H (fun _ _ h => h) (.int _)⟩
  · cases hg

/-! ### subscripts -/
def ixD : D → D → Option D
  | .tup xs, .int i => atI xs i
  | .lst xs, .int i => atI xs i
  | .str x, .int i => if x.length ≤ 16777216 then (atI x.cps.toList i).map fun c => .str ⟨#[c]⟩ else none
  | _, _ => none
theorem rpa_at {O H} {us : List V} {ds : List D} {i : Int} {d : D} (r : RpA G.K G.cv O H us ds) (h : atI ds i = some d) : ∃ v, atI us i = some v ∧ Rp G.K G.cv O H v d := by
  unfold atI at h ⊢
  rw [r.len]
  cases q : ixN ds.length i with
  | none => rw [q] at h; cases h
  | some j =>
    rw [q, Option.bind_some] at h
    rw [Option.bind_some]
    exact r.get h
theorem og_ix : OpG G (rIx G.K) ixD := fun O H x y d e z Q hd hx hy hg q => by
  unfold ixD at hg
  split at hg
  · obtain ⟨a, us, rfl, h1, r⟩ := rs_tup hx
    rw [rs_int hy]
    obtain ⟨v, h2, h3⟩ := rpa_at r hg
    exact .inr (.inl ⟨a, us, _, v, rfl, rfl, h1, h2, q _ H (fun _ _ h => h) h3⟩)
  · obtain ⟨a, us, rfl, h1, r⟩ := hx
    rw [rs_int hy]
    obtain ⟨v, h2, h3⟩ := rpa_at r hg
    exact .inl ⟨a, us, _, v, rfl, rfl, h1, h2, q _ H (fun _ _ h => h) h3⟩
  · rename_i x' i
    split at hg
    · rename_i hz
      rw [rs_str hx, rs_int hy]
      cases h1 : atI x'.cps.toList i with
      | none => rw [h1] at hg; cases hg
      | some c =>
        rw [h1] at hg; cases hg
        exact .inr (.inr ⟨x', i, c, rfl, rfl, by rw [sizeLine_eq]; exact hz, h1, q _ H (fun _ _ h => h) (.str _)⟩)
    · cases hg
  · cases hg
theorem ev_ix {a b : Expr} {fa fb : Env → Out Rv} {pos : Pos} (ha : Ev X G W a fa) (hb : Ev X G W b fb) (hs : PlainIx b := by exact fun _ _ => rfl) (hK : X.K = G.K := by rfl) : Ev X G W (.Subscript a b pos) (eBin ixD fa fb) :=
  PEw_ (pe_ix ix_seq ha hb hs) fun σ H Q ⟨O, ρ, E, h⟩ => by
    rw [hK]
    exact two_in og_ix E h

/-! ### slices -/
/-- a slice's bounds -/
def poNone : Env → Out (Option Int) := fun ρ => .ok none ρ
def intO : Rv → Option (Option Int)
  | .val (.int i) => some (some i)
  | _ => none
@[simp] theorem intO_int (i : Int) : intO (.val (.int i)) = some (some i) := rfl
def poSome (f : Env → Out Rv) : Env → Out (Option Int) := fun ρ => (f ρ).bind fun r ρ1 => Out.of (intO r) ρ1
def RvO : Rl (Option Int) (Option Int) := fun _ _ _ _ v a => v = a
abbrev Po (X : Cx) (G : Gr) (W : WX) (e : Option Expr) (f : Env → Out (Option Int)) : Prop := PO X e (tr RvO G W f)
theorem POw_ {X : Cx} {e : Option Expr} {t t' : TO} (h : PO X e t) (w : ∀ σ H Q, t' σ H Q → t σ H Q) : PO X e t' := ⟨fun pins s σ H Q I q => h.run pins s σ H Q I (w σ H Q q)⟩
theorem pov_none : Po X G W none poNone := POw_ po_none fun σ H Q ⟨O, ρ, E, a⟩ => ans_ok (R1 := RvO) (a := none) a E (EX.refl _ _) rfl
theorem pov_some {e : Expr} {f : Env → Out Rv} (h : Ev X G W e f) : Po X G W (some e) (poSome f) :=
  POw_ (po_some h) fun σ H Q ⟨O, ρ, E, a⟩ => ⟨O, ρ, E, ans_in (g := fun r ρ1 => Out.of (intO r) ρ1) a fun r ρ1 v H1 E1 e1 r1 a1 => by
    obtain ⟨z, hz, q⟩ := ans_of a1
    unfold intO at hz
    split at hz
    · cases hz
      have r1 : Rp G.K G.cv O H1 v (.int _) := r1
      cases r1
      exact ⟨_, rfl, ans_ok (R1 := RvO) q E1 (EX.refl _ _) rfl⟩
    · cases hz⟩
def cutD {α : Type} (xs : List α) (lo hi : Option Int) : List α := (xs.drop (HT.sIx xs.length 0 lo)).take (HT.sIx xs.length xs.length hi - HT.sIx xs.length 0 lo)
def slD (d : D) (lo hi : Option Int) : Option D := match d with
  | .tup xs => some (.tup (cutD xs lo hi))
  | .lst xs => some (.lst (cutD xs lo hi))
  | _ => none
theorem cutD_whole {α : Type} (xs : List α) (lo hi : Option Int) (h : HT.sIx xs.length 0 lo = 0 ∧ HT.sIx xs.length xs.length hi = xs.length) : cutD xs lo hi = xs := by
  unfold cutD
  rw [h.1, h.2]
  simp
theorem rpa_cut {O H} {us : List V} {ds : List D} (lo hi : Option Int) (r : RpA G.K G.cv O H us ds) : RpA G.K G.cv O H (cutV us lo hi) (cutD ds lo hi) := by
  unfold cutV cutD
  rw [r.len]
  exact (r.drop _).take _
def eSl (f : Env → Out Rv) (fl fh : Env → Out (Option Int)) : Env → Out Rv := fun ρ => (f ρ).bind fun x ρ1 => (fl ρ1).bind fun lo ρ2 => (fh ρ2).bind fun hi ρ3 => Out.of (((deref x ρ3).bind fun d => slD d lo hi).map Rv.val) ρ3
theorem ev_slice {e : Expr} {lo hi : Option Expr} {f : Env → Out Rv} {fl fh : Env → Out (Option Int)} {p2 pos : Pos} (he : Ev X G W e f) (hl : Po X G W lo fl) (hu : Po X G W hi fh) (hK : X.K = G.K := by rfl) : Ev X G W (.Subscript e (.Slice lo hi none p2) pos) (eSl f fl fh) :=
  PEw_ (pe_slice (sl_list.or sl_tupA) he hl hu) fun σ H Q ⟨O, ρ, E, a⟩ => ⟨O, ρ, E, ans_in (g := fun x ρ1 => (fl ρ1).bind fun lo ρ2 => (fh ρ2).bind fun hi ρ3 => Out.of (((deref x ρ3).bind fun d => slD d lo hi).map Rv.val) ρ3) a fun x ρ1 v H1 E1 e1 r1 a1 =>
    ⟨O, ρ1, E1, ans_in (g := fun lo ρ2 => (fh ρ2).bind fun hi ρ3 => Out.of (((deref x ρ3).bind fun d => slD d lo hi).map Rv.val) ρ3) a1 fun l ρ2 l' H2 E2 e2 r2 a2 =>
      ⟨O, ρ2, E2, ans_in (g := fun hi ρ3 => Out.of (((deref x ρ3).bind fun d => slD d l hi).map Rv.val) ρ3) a2 fun u ρ3 u' H3 E3 e3 r3 a3 => by
        have r2 : l' = l := r2
        have r3 : u' = u := r3
        subst r2 r3
        obtain ⟨z, hz, q⟩ := ans_of a3
        cases h1 : deref x ρ3 with
        | none => rw [h1] at hz; cases hz
        | some d =>
          rw [h1, Option.bind_some] at hz
          have rs := deref_rs E3 ((r1.ex e2).ex e3) h1
          cases d with
          | tup xs =>
            cases hz
            obtain ⟨b, us, rfl, k1, r⟩ := rs_tup rs
            refine .inr ⟨b, us, rfl, by rw [hK]; exact k1, fun hw => ?_, fun hw p hp => ?_⟩
            · rw [r.len] at hw
              exact ans_ok (R1 := RvR) (a := Rv.val (.tup (cutD xs l' u'))) q E3 (EX.refl _ _) (by rw [cutD_whole xs l' u' hw]; exact Rp.tup k1 r)
            · exact ans_ok (R1 := RvR) (a := Rv.val (.tup (cutD xs l' u'))) q (E3.new hp) (EX.new hp) (rp_newT hp (rpa_cut l' u' r))
          | lst xs =>
            cases hz
            obtain ⟨b, us, rfl, k1, r⟩ := rs
            exact .inl ⟨b, us, rfl, by rw [hK]; exact k1, fun p hp => ans_ok (R1 := RvR) (a := Rv.val (.lst (cutD xs l' u'))) q (E3.new hp) (EX.new hp) (rp_newL E3.dom hp (rpa_cut l' u' r))⟩
          | _ => cases hz⟩⟩⟩
end
end EL

/-! E8: targets, what is walked, comprehensions. -/
namespace EL
open PySem PySem.Spec PyProof.Rows L2

/-- O' has, beside O's, new addresses alone -/
structure Gw (O : AS) (H : Hp) (O' : AS) : Prop where
  sub : ∀ a, O.av a → O'.av a
  new : ∀ a, O'.av a → O.av a ∨ H a = none
  wsub : ∀ a, O.wr a → O'.wr a
  wnew : ∀ a, O'.wr a → O.wr a ∨ H a = none
theorem Gw.refl (O : AS) (H : Hp) : Gw O H O := ⟨fun _ h => h, fun _ h => .inl h, fun _ h => h, fun _ h => .inl h⟩
theorem EX.back {O : AS} {H H1 : Hp} (e : EX O H H1) {c : Addr} (h : H1 c = none) : H c = none := by
  cases q : H c with
  | none => rfl
  | some o => exact absurd h (e.dom c (by rw [q]; simp))
theorem Gw.trans {O O1 O2 : AS} {H H1 : Hp} (a : Gw O H O1) (e : EX O H H1) (b : Gw O1 H1 O2) : Gw O H O2 := ⟨fun c h => b.sub c (a.sub c h), fun c h => by
  rcases b.new c h with h | h
  · exact a.new c h
  · exact .inr (e.back h), fun c h => b.wsub c (a.wsub c h), fun c h => by
  rcases b.wnew c h with h | h
  · exact a.wnew c h
  · exact .inr (e.back h)⟩
theorem Gw.hide {O : AS} {H : Hp} {p : Addr} (h : H p = none) : Gw O H (O.hide p) := ⟨fun _ h => .inl h, fun a z => z.elim .inl fun z => .inr (by rw [z]; exact h), fun _ h => h, fun _ h => .inl h⟩
theorem Gw.own {O : AS} {H : Hp} {p : Addr} (h : H p = none) : Gw O H (O.own p) := ⟨fun _ h => .inl h, fun a z => z.elim .inl fun z => .inr (by rw [z]; exact h), fun _ h => .inl h, fun a z => z.elim .inl fun z => .inr (by rw [z]; exact h)⟩
theorem EX.gw {O O1 : AS} {H H1 H2 : Hp} (a : EX O H H1) (g : Gw O H O1) (b : EX O1 H1 H2) : EX O H H2 where
  keep := fun c o h n t => b.keep c o (a.keep c o h n t) (fun z => by
    rcases g.wnew c z with z | z
    · exact n z
    · rw [h] at z; cases z) t
  tups := fun c xs h => b.tups c xs (a.tups c xs h)
  frzs := fun c o u h => b.frzs c o u (a.frzs c o u h)
  dom := fun c h => b.dom c (a.dom c h)
section
variable {K : PySem.W.Frag} {cv : String → Value} {O O' : AS} {H H' : Hp}
theorem SqF.gw (g : Gw O H O') {a xs} (r : SqF K O H a xs) : SqF K O' H a xs := by
  rcases r with ⟨r, n⟩ | r
  · refine .inl ⟨r, fun z => ?_⟩
    rcases g.new a z with z | z
    · exact n z
    · rcases r with r | ⟨o, r⟩ <;> rw [z] at r <;> cases r
  · exact .inr r
mutual
theorem Rp.gw (g : Gw O H O') : ∀ {v : V} {d : D}, Rp K cv O H v d → Rp K cv O' H v d
  | _, _, .non => .non
  | _, _, .bl b => .bl b
  | _, _, .int i => .int i
  | _, _, .str x => .str x
  | _, _, .ref a => .ref a
  | _, _, .tup q r => .tup q (RpA.gw g r)
  | _, _, .lst q r => .lst (q.gw g) (RpA.gw g r)
  | _, _, .ins c q n r => .ins c q (fun z => by
    rcases g.new _ z with z | z
    · exact n z
    · rw [q] at z; cases z) (RpF.gw g r)
theorem RpA.gw (g : Gw O H O') : ∀ {vs : List V} {ds : List D}, RpA K cv O H vs ds → RpA K cv O' H vs ds
  | _, _, .nil => .nil
  | _, _, .cons q r => .cons (Rp.gw g q) (RpA.gw g r)
theorem RpF.gw (g : Gw O H O') : ∀ {vs : List (Str × V)} {ds : List (Str × D)}, RpF K cv O H vs ds → RpF K cv O' H vs ds
  | _, _, .nil => .nil
  | _, _, .cons q r => .cons (Rp.gw g q) (RpF.gw g r)
end
end
section
variable {G : Gr} {O O' : AS} {σ σ' : L2.St} {H H' : Hp} {ρ : Env}
theorem OR.gw (g : Gw O H O') {a o} (r : OR G O H a o) : OR G O' H a o := by
  cases o with
  | lst xs => obtain ⟨us, u1, u2⟩ := r; exact ⟨us, u1, u2.gw g⟩
  | dk kvs => obtain ⟨us, u1, u2, u3⟩ := r; exact ⟨us, u1, u2, u3.gw g⟩
  | dt kvs => obtain ⟨us, u1, u2, u3⟩ := r; exact ⟨us, u1, u2, u3.gw g⟩
  | ins c fs => obtain ⟨C, dx, us, c1, u1, u2⟩ := r; exact ⟨C, dx, us, c1, u1, u2.gw g⟩
theorem OR.less (g : ∀ a, O'.av a → O.av a) {a o} (r : OR G O H a o) : OR G O' H a o := by
  cases o with
  | lst xs => obtain ⟨us, u1, u2⟩ := r; exact ⟨us, u1, u2.less g⟩
  | dk kvs => obtain ⟨us, u1, u2, u3⟩ := r; exact ⟨us, u1, u2, u3.less g⟩
  | dt kvs => obtain ⟨us, u1, u2, u3⟩ := r; exact ⟨us, u1, u2, u3.less g⟩
  | ins c fs => obtain ⟨C, dx, us, c1, u1, u2⟩ := r; exact ⟨C, dx, us, c1, u1, u2.less g⟩
/-- more addresses to keep off -/
theorem ER.gw (E : ER G O σ H ρ) (g : Gw O H O') (hd : ∀ a, O'.av a → H a ≠ none) : ER G O' σ H ρ := by
  refine ⟨E.len, fun a h => g.sub a (E.sub a h), fun a h => g.wsub a (E.wsub a h), E.odom, hd, E.ext, E.tabs, fun i s h => ?_, E.inj⟩
  have q := E.slot i s h
  cases s with
  | un => trivial
  | val d => obtain ⟨v, h1, h2⟩ := q; exact ⟨v, h1, h2.gw g⟩
  | own io o => obtain ⟨a, h1, h2, h3, h4⟩ := q; exact ⟨a, h1, h2.gw g, g.wsub a h3, h4⟩
/-- a name is stored -/
theorem ER.set (E : ER G O σ H ρ) (i : Nat) {v : V} {d : D} (r : Rp G.K G.cv O H v d) : ER G O (σ.set i (some v)) H (ρ.set i (.val d)) := by
  refine ⟨by rw [List.length_set, List.length_set]; exact E.len, E.sub, E.wsub, E.odom, E.dom, E.ext, E.tabs, fun j s h => ?_, fun j k a io io' o o' h1 h2 h3 h4 => ?_⟩
  · by_cases e : i = j
    · subst e
      by_cases hl : i < ρ.length
      · rw [List.getElem?_set_self hl] at h
        cases h
        exact ⟨v, by rw [List.getElem?_set_self (by rw [← E.len]; exact hl)], r⟩
      · rw [List.getElem?_eq_none (by simpa using hl)] at h; cases h
    · rw [List.getElem?_set_ne e] at h
      have q := E.slot j s h
      cases s with
      | un => trivial
      | val d => obtain ⟨w, h1, h2⟩ := q; exact ⟨w, by rw [List.getElem?_set_ne e]; exact h1, h2⟩
      | own io o => obtain ⟨a, h1, h2, h3⟩ := q; exact ⟨a, by rw [List.getElem?_set_ne e]; exact h1, h2, h3⟩
  · have nj : ∀ (j : Nat) (io : Bool) (o : OD), (ρ.set i (.val d))[j]? = some (.own io o) → i ≠ j ∧ ρ[j]? = some (.own io o) := fun j io o h => by
      by_cases e : i = j
      · subst e
        by_cases hl : i < ρ.length
        · rw [List.getElem?_set_self hl] at h; cases h
        · rw [List.getElem?_eq_none (by simpa using hl)] at h; cases h
      · rw [List.getElem?_set_ne e] at h; exact ⟨e, h⟩
    obtain ⟨e1, q1⟩ := nj j io o h1
    obtain ⟨e2, q2⟩ := nj k io' o' h2
    rw [List.getElem?_set_ne e1] at h3
    rw [List.getElem?_set_ne e2] at h4
    exact E.inj j k a io io' o o' q1 q2 h3 h4

/-! ### targets -/
/-- σ' is σ but at these slots -/
def Sb (is : List Nat) (σ σ' : L2.St) : Prop := σ'.length = σ.length ∧ ∀ j, j ∉ is → σ'[j]? = σ[j]?
theorem Sb.refl (is σ) : Sb is σ σ := ⟨rfl, fun _ _ => rfl⟩
theorem Sb.set {is : List Nat} {i : Nat} (h : i ∈ is) (σ : L2.St) (v) : Sb is σ (σ.set i v) := ⟨List.length_set, fun j hj => List.getElem?_set_ne (fun e => hj (by rw [← e]; exact h))⟩
theorem Sb.trans {is σ σ1 σ2} (a : Sb is σ σ1) (b : Sb is σ1 σ2) : Sb is σ σ2 := ⟨b.1.trans a.1, fun j h => (b.2 j h).trans (a.2 j h)⟩
theorem Sb.mono {is js σ σ1} (a : Sb is σ σ1) (h : ∀ i ∈ is, i ∈ js) : Sb js σ σ1 := ⟨a.1, fun j hj => a.2 j fun z => hj (h j z)⟩
theorem Sb.wipe {vs σ σ'} (h : Sb vs σ σ') : wipe σ' vs = wipe σ vs := by
  apply List.ext_getElem?
  intro j
  by_cases hj : j ∈ vs
  · have key : ∀ (τ : L2.St) (us : List Nat), j ∈ us → (L2.wipe τ us)[j]? = if j < τ.length then some none else none := by
      intro τ us
      induction us with
      | nil => intro h; cases h
      | cons u us ih =>
        intro h
        show ((L2.wipe τ us).set u none)[j]? = _
        by_cases e : u = j
        · subst e
          by_cases hl : u < τ.length
          · rw [List.getElem?_set_self (by rw [wipe_length]; exact hl), if_pos hl]
          · rw [List.getElem?_eq_none (by rw [List.length_set, wipe_length]; omega), if_neg hl]
        · rw [List.getElem?_set_ne e]
          exact ih ((List.mem_cons.mp h).resolve_left (fun z => e z.symm))
    rw [key σ' vs hj, key σ vs hj, h.1]
  · rw [wipe_out hj, wipe_out hj]
    exact h.2 j hj
abbrev Tg := D → Env → Option Env
def tGv (G : Gr) (is : List Nat) (g : Tg) : TG := fun v σ H Q => ∃ O ρ d ρ', ER G O σ H ρ ∧ Rp G.K G.cv O H v d ∧ g d ρ = some ρ' ∧ ∀ σ', Sb is σ σ' → ER G O σ' H ρ' → Q σ' H
abbrev Gv (X : Cx) (G : Gr) (is : List Nat) (tg : Expr) (g : Tg) : Prop := PG X tg (tGv G is g)
theorem PGw_ {X : Cx} {e : Expr} {t t' : TG} (h : PG X e t) (w : ∀ v σ H Q, t' v σ H Q → t v σ H Q) : PG X e t' := ⟨fun pins s σ H v u Q I r q => h.run pins s σ H v u Q I r (w v σ H Q q)⟩
theorem PGsw_ {X : Cx} {e : List Expr} {t t' : TGs} (h : PGs X e t) (w : ∀ v σ H Q, t' v σ H Q → t v σ H Q) : PGs X e t' := ⟨fun pins s σ H v u Q I r q => h.run pins s σ H v u Q I r (w v σ H Q q)⟩
def gSet (i : Nat) : Tg := fun d ρ => some (ρ.set i (.val d))
theorem gv_name {X : Cx} (i : Nat) {x : Str} {pos : Pos} (hN : X.N.Nodup) (hi : X.N[i]? = some x := by rfl) (hx : Loc X.env.scope x := by first | exact Or.inl rfl | exact Or.inr rfl)
    (hf : X.fn x = true ∨ X.env.scope.names.lookup x = some .local := by first | exact .inl rfl | exact .inr rfl | assumption) : Gv X G [i] (.Name x pos) (gSet i) :=
  PGw_ (pg_name hN hi hx hf) fun v σ H Q ⟨O, ρ, d, ρ', E, r, h, q⟩ => by
    cases h
    exact q _ (Sb.set (by simp) σ _) (E.set i r)
def setAll : List Nat → List D → Env → Option Env
  | [], [], ρ => some ρ
  | i :: is, d :: ds, ρ => setAll is ds (ρ.set i (.val d))
  | _, _, _ => none
@[simp] theorem setAll_nil (ρ : Env) : setAll [] [] ρ = some ρ := rfl
@[simp] theorem setAll_cons (i : Nat) (is : List Nat) (d : D) (ds : List D) (ρ : Env) : setAll (i :: is) (d :: ds) ρ = setAll is ds (ρ.set i (.val d)) := rfl
theorem setAll_len : ∀ {is : List Nat} {ds : List D} {ρ ρ' : Env}, setAll is ds ρ = some ρ' → ds.length = is.length
  | [], [], _, _, _ => rfl
  | _ :: is, _ :: ds, _, _, h => by simp [setAll_len (is := is) (ds := ds) h]
  | [], _ :: _, _, _, h => by cases h
  | _ :: _, [], _, _, h => by cases h
def tGsv (G : Gr) (is : List Nat) : TGs := fun vs σ H Q => ∃ O ρ ds ρ', ER G O σ H ρ ∧ RpA G.K G.cv O H vs ds ∧ setAll is ds ρ = some ρ' ∧ ∀ σ', Sb is σ σ' → ER G O σ' H ρ' → Q σ' H
abbrev Gsv (X : Cx) (G : Gr) (is : List Nat) (ts : List Expr) : Prop := PGs X ts (tGsv G is)
theorem gsv_nil {X : Cx} : Gsv X G [] [] := PGsw_ pgs_nil fun vs σ H Q ⟨O, ρ, ds, ρ', E, r, h, q⟩ => by
  cases r with
  | nil => cases h; exact ⟨rfl, q σ (Sb.refl _ _) E⟩
  | cons _ _ => cases h
theorem gsv_cons {X : Cx} (i : Nat) {is : List Nat} {x : Str} {pos : Pos} {ts : List Expr} (h2 : Gsv X G is ts) (hN : X.N.Nodup) (hi : X.N[i]? = some x := by rfl) (hx : Loc X.env.scope x := by first | exact Or.inl rfl | exact Or.inr rfl)
    (hf : X.fn x = true ∨ X.env.scope.names.lookup x = some .local := by first | exact .inl rfl | exact .inr rfl | assumption)
    (hs : (assignEach (.Name x pos :: ts) X.env).map (·.2) = assign (.Name x pos) X.env :: (assignEach ts X.env).map (·.2) := by rfl) : Gsv X G (i :: is) (.Name x pos :: ts) :=
  PGsw_ (pgs_cons (pg_name hN hi hx hf) h2 hs) fun vs σ H Q ⟨O, ρ, ds, ρ', E, r, h, q⟩ => by
    cases r with
    | nil => cases h
    | cons r1 r2 =>
      refine ⟨_, _, rfl, O, ρ.set i (.val _), _, ρ', E.set i r1, r2, h, fun σ' sb E' => q σ' ?_ E'⟩
      exact (Sb.set (by simp) σ _).trans (sb.mono fun j hj => by simp [hj])
def gTupD (is : List Nat) : Tg := fun d ρ => match d with
  | .tup ds => setAll is ds ρ
  | _ => none
@[simp] theorem gTupD_tup (is : List Nat) (ds : List D) (ρ : Env) : gTupD is (.tup ds) ρ = setAll is ds ρ := rfl
theorem gv_tup {X : Cx} {is : List Nat} {es : List Expr} {k : Nat} {pos : Pos} (h : Gsv X G is es) (hc : X.calm = true := by rfl) (hK : X.K = G.K := by rfl)
    (hn : (assignEach es X.env).length = is.length := by rfl) (hst : (assignEach es X.env).findIdx? (·.1) = none := by rfl) : Gv X G is (.Tuple es k pos) (gTupD is) :=
  PGw_ (pg_tup hc h hn hst) fun v σ H Q ⟨O, ρ, d, ρ', E, r, h, q⟩ => by
    cases d with
    | tup ds =>
      cases r with
      | tup h1 r1 => exact ⟨_, _, rfl, by rw [hK]; exact h1, by rw [r1.len]; exact setAll_len h, O, ρ, ds, ρ', E, r1, h, q⟩
    | _ => cases h

/-! ### what is walked -/
structure CSrc where
  n : Nat
  it : Nat → Env → Option D
  fin : Env → Bool
  slot : Option Nat
def CSrc.of (ds : List D) : CSrc := ⟨ds.length, fun i _ => ds[i]?, fun _ => true, none⟩
structure JOk (G : Gr) (O : AS) (σ : L2.St) (H : Hp) (J : It) (c : CSrc) : Prop where
  go : ∀ (O' : AS) (σ' : L2.St) (H' : Hp) (ρ : Env) (i : Nat) (d : D), ER G O' σ' H' ρ → EX O H H' → Gw O H O' → (∀ k, c.slot = some k → σ'[k]? = σ[k]?) → i < c.n → c.it i ρ = some d →
    J.go i H' ∧ ∀ x H2, J.yld i H' x H2 → (∀ b o, H' b = some o → H2 b = some o) ∧ Rp G.K G.cv O' H2 x d
  stop : ∀ (O' : AS) (σ' : L2.St) (H' : Hp) (ρ : Env), ER G O' σ' H' ρ → EX O H H' → Gw O H O' → (∀ k, c.slot = some k → σ'[k]? = σ[k]?) → c.fin ρ = true → J.stop c.n H'
def tIv (G : Gr) (W : WX) (f : Env → Out CSrc) : TI := fun σ H R => ∃ O ρ, ER G O σ H ρ ∧ match f ρ with
  | .ok c ρ' => ∀ J H', ER G O σ H' ρ' → EX O H H' → JOk G O σ H' J c → R J H'
  | .err c ρ' => ∀ (dd : DD c) H', ER G O σ H' ρ' → EX O H H' → W (G.cv c) dd.1 σ H'
  | .bad => False
abbrev Iv (X : Cx) (G : Gr) (W : WX) (tg iter : Expr) (f : Env → Out CSrc) : Prop := PI X tg iter (tIv G W f)
theorem PIw_ {X : Cx} {tg e : Expr} {t t' : TI} (h : PI X tg e t) (w : ∀ σ H R, t' σ H R → t σ H R) : PI X tg e t' := ⟨fun pins s σ H R I q => h.run pins s σ H R I (w σ H R q)⟩
theorem iv_in {W : WX} {α ν : Type} {R1 : Rl ν α} {f : Env → Out α} {g : α → Env → Out CSrc} {σ : L2.St} {H : Hp} {O : AS} {ρ : Env} {R : It → Hp → Prop} {S : ν → Hp → Prop} (E : ER G O σ H ρ)
    (h : match (f ρ).bind g with
      | .ok c ρ' => ∀ J H', ER G O σ H' ρ' → EX O H H' → JOk G O σ H' J c → R J H'
      | .err c ρ' => ∀ (dd : DD c) H', ER G O σ H' ρ' → EX O H H' → W (G.cv c) dd.1 σ H'
      | .bad => False)
    (k : ∀ a ρ1 v H1, ER G O σ H1 ρ1 → EX O H H1 → R1 G O σ H1 v a → (match g a ρ1 with
      | .ok c ρ' => ∀ J H', ER G O σ H' ρ' → EX O H1 H' → JOk G O σ H' J c → R J H'
      | .err c ρ' => ∀ (dd : DD c) H', ER G O σ H' ρ' → EX O H1 H' → W (G.cv c) dd.1 σ H'
      | .bad => False) → S v H1) : ans R1 G O W σ H (f ρ) S := by
  cases q : f ρ with
  | ok a ρ1 =>
    rw [q] at h
    intro v H1 E1 e1 r1
    refine k a ρ1 v H1 E1 e1 r1 ?_
    have h : (match g a ρ1 with
      | .ok c ρ' => ∀ J H', ER G O σ H' ρ' → EX O H H' → JOk G O σ H' J c → R J H'
      | .err c ρ' => ∀ (dd : DD c) H', ER G O σ H' ρ' → EX O H H' → W (G.cv c) dd.1 σ H'
      | .bad => False) := h
    cases q2 : g a ρ1 with
    | ok c ρ' => rw [q2] at h; exact fun J H' E' e' j => h J H' E' (e1.trans e') j
    | err c ρ' => rw [q2] at h; exact fun dd H' E' e' => h dd H' E' (e1.trans e')
    | bad => rw [q2] at h; exact h
  | err c ρ' => rw [q] at h; exact h
  | bad => rw [q] at h; exact h
/-- a list, a tuple; a list that a name owns -/
def srcO (r : Rv) (ρ : Env) : Option CSrc := match r with
  | .val (.lst ds) => some (.of ds)
  | .val (.tup ds) => some (.of ds)
  | .slot k => match ρ[k]? with
    | some (.own _ (.lst xs)) => some ⟨xs.length, fun i ρ' => match ρ'[k]? with
      | some (.own _ (.lst ys)) => if ys.length = xs.length then ys[i]? else none
      | _ => none, fun ρ' => match ρ'[k]? with
      | some (.own _ (.lst ys)) => decide (ys.length = xs.length)
      | _ => false, some k⟩
    | _ => none
  | _ => none
def iSeq (f : Env → Out Rv) : Env → Out CSrc := fun ρ => (f ρ).bind fun r ρ1 => Out.of (srcO r ρ1) ρ1
theorem jok_lst {K : PySem.W.Frag} (hK : K = G.K) {a : Addr} {us : List V} {ds : List D} (h : SqF G.K O H a us) (r : RpA G.K G.cv O H us ds) : JOk G O σ H (Itl K a) (.of ds) := by
  subst hK
  constructor
  · intro O' σ' H' ρ i d E e g _ hi hd
    have h' := ((h.gw g).ex (e.mono g.wsub)).sq
    obtain ⟨v, hv, rv⟩ := r.get hd
    refine ⟨⟨us, v, h', hv⟩, fun x H2 y => ?_⟩
    obtain ⟨rfl, y⟩ := y
    have hx := y us h'
    rw [hv] at hx
    cases hx
    exact ⟨fun _ _ z => z, (rv.gw g).ex (e.mono g.wsub)⟩
  · intro O' σ' H' ρ E e g _ _
    exact ⟨us, ((h.gw g).ex (e.mono g.wsub)).sq, by rw [r.len]; exact Nat.le_refl _⟩
theorem jok_tup {K : PySem.W.Frag} (hK : K = G.K) {a : Addr} {us : List V} {ds : List D} (h : SqT G.K H a us) (r : RpA G.K G.cv O H us ds) : JOk G O σ H (Itt K a) (.of ds) := by
  subst hK
  constructor
  · intro O' σ' H' ρ i d E e g _ hi hd
    have h' := SqT.ex e h
    obtain ⟨v, hv, rv⟩ := r.get hd
    refine ⟨⟨us, v, h', hv⟩, fun x H2 y => ?_⟩
    obtain ⟨rfl, y⟩ := y
    have hx := y us h'
    rw [hv] at hx
    cases hx
    exact ⟨fun _ _ z => z, (rv.gw g).ex (e.mono g.wsub)⟩
  · intro O' σ' H' ρ E e g _ _
    exact ⟨us, SqT.ex e h, by rw [r.len]; exact Nat.le_refl _⟩
theorem rng_jok {lo : Int} {n : Nat} : JOk G O σ H (Itr lo n) (.of ((List.range n).map fun (i : Nat) => .int (lo + (i : Int)))) := by
  constructor
  · intro O' σ' H' ρ i d E e g _ hi hd
    have hi : i < n := by simpa [CSrc.of] using hi
    refine ⟨hi, fun x H2 y => ?_⟩
    obtain ⟨rfl, rfl⟩ := y
    have hd : ((List.range n).map fun (i : Nat) => D.int (lo + (i : Int)))[i]? = some d := hd
    rw [List.getElem?_map, List.getElem?_range hi] at hd
    cases hd
    exact ⟨fun _ _ z => z, .int _⟩
  · intro O' σ' H' ρ E e g _ _
    show n ≤ _
    simp [CSrc.of]
end
section
variable {X : Cx} {G : Gr} {W : WX} {tg : Expr}
/-- a list or a tuple -/
def iSq (K : PySem.W.Frag) (tl : TE) : TI := fun σ H R => tl σ H fun x H1 => (∃ a xs, x = .ref a ∧ SqL K H1 a xs ∧ R (Itl K a) H1) ∨ ∃ a xs, x = .ref a ∧ SqT K H1 a xs ∧ R (Itt K a) H1
theorem pi_sq {l : Expr} {tl : TE} (hl : PE X l tl) : PI X tg l (iSq X.K tl) := by
  refine ⟨fun pins s σ H R I h => ?_⟩
  refine thn (hl.run pins s σ H _ I h) fun v s1 ⟨x, H1, I1, r1, q1⟩ => ?_
  rcases q1 with ⟨a, xs, e, hq, q⟩ | ⟨a, xs, e, hq, q⟩
  · subst e
    cases r1
    obtain ⟨its, rv, p, hz⟩ := I1.list hq
    refine wpAny_pyIter_list p.isList ?_
    refine ⟨s1.heap.objs.size, [s1.heap.objs.size], _, _, H1, rfl, I1.kept (t' := s1.toks) fun b o e => Heap.get?_push_of_some _ e, turn_list a _, ⟨_, Heap.get?_push_size _ rfl, rfl, rfl⟩, fun b hb => ?_, q⟩
    have e : b = s1.heap.objs.size := by simpa using hb
    subst e
    exact I1.fpOk (Nat.le_refl _) (I1.hok.fresh (Nat.le_refl _))
  · subst e
    cases r1
    obtain ⟨its, rv, p, hz⟩ := I1.tuple hq
    refine wpAny_pyIter_tuple (show s1.heap.IsTuple a its.toArray from p) ?_
    refine ⟨s1.heap.objs.size, [s1.heap.objs.size], _, _, H1, rfl, I1.kept (t' := s1.toks) fun b o e => Heap.get?_push_of_some _ e, turn_tuple a _, ⟨_, Heap.get?_push_size _ rfl, rfl, rfl⟩, fun b hb => ?_, q⟩
    have e : b = s1.heap.objs.size := by simpa using hb
    subst e
    exact I1.fpOk (Nat.le_refl _) (I1.hok.fresh (Nat.le_refl _))
/-- a list that a name owns, turn by turn -/
def srcSlot (k n : Nat) : CSrc := ⟨n, fun i ρ' => match ρ'[k]? with
      | some (.own _ (.lst ys)) => if ys.length = n then ys[i]? else none
      | _ => none, fun ρ' => match ρ'[k]? with
      | some (.own _ (.lst ys)) => decide (ys.length = n)
      | _ => false, some k⟩
theorem jok_slot {O : AS} {σ : L2.St} {H : Hp} {k : Nat} {a : Addr} {n : Nat} (hs : σ[k]? = some (some (.ref a))) : JOk G O σ H (Itl G.K a) (srcSlot k n) := by
  constructor
  · intro O' σ' H' ρ i d E e g hk hi hd
    have hs' : σ'[k]? = some (some (.ref a)) := (hk k rfl).trans hs
    have hd : (match ρ[k]? with | some (.own _ (.lst ys)) => if ys.length = n then ys[i]? else none | _ => none) = some d := hd
    cases q : ρ[k]? with
    | none => rw [q] at hd; cases hd
    | some sl =>
      rw [q] at hd
      cases sl with
      | un => cases hd
      | val _ => cases hd
      | own io o =>
        cases o with
        | lst ys =>
          have hd : (if ys.length = n then ys[i]? else none) = some d := hd
          split at hd
          · obtain ⟨b, h1, ⟨us, u1, u2⟩, _⟩ := E.slot k _ q
            rw [hs'] at h1
            cases h1
            obtain ⟨v, hv, rv⟩ := u2.get hd
            refine ⟨⟨us, v, SqL.of u1, hv⟩, fun x H2 y => ?_⟩
            obtain ⟨rfl, y⟩ := y
            have hx := y us (SqL.of u1)
            rw [hv] at hx
            cases hx
            exact ⟨fun _ _ z => z, rv⟩
          · cases hd
        | _ => cases hd
  · intro O' σ' H' ρ E e g hk hf
    have hs' : σ'[k]? = some (some (.ref a)) := (hk k rfl).trans hs
    have hf : (match ρ[k]? with | some (.own _ (.lst ys)) => decide (ys.length = n) | _ => false) = true := hf
    cases q : ρ[k]? with
    | none => rw [q] at hf; cases hf
    | some sl =>
      rw [q] at hf
      cases sl with
      | un => cases hf
      | val _ => cases hf
      | own io o =>
        cases o with
        | lst ys =>
          have hf : ys.length = n := of_decide_eq_true hf
          obtain ⟨b, h1, ⟨us, u1, u2⟩, _⟩ := E.slot k _ q
          rw [hs'] at h1
          cases h1
          exact ⟨us, SqL.of u1, by rw [u2.len, hf]; exact Nat.le_refl _⟩
        | _ => cases hf
theorem iv_seq {l : Expr} {f : Env → Out Rv} (h : Ev X G W l f) (hK : X.K = G.K := by rfl) : Iv X G W tg l (iSeq f) :=
  PIw_ (pi_sq h) fun σ H R ⟨O, ρ, E, a⟩ => ⟨O, ρ, E, by
    refine iv_in (R1 := RvR) (g := fun r ρ1 => Out.of (srcO r ρ1) ρ1) E a fun r ρ1 v H1 E1 e1 r1 a1 => ?_
    cases q : srcO r ρ1 with
    | none => rw [q] at a1; exact a1.elim
    | some c =>
      rw [q] at a1
      have a1 : ∀ J H', ER G O σ H' ρ1 → EX O H1 H' → JOk G O σ H' J c → R J H' := a1
      unfold srcO at q
      split at q
      · cases q
        have r1 : Rp G.K G.cv O H1 v (.lst _) := r1
        cases r1 with
        | lst h1 rr => exact .inl ⟨_, _, rfl, by rw [hK]; exact h1.sq, a1 _ _ E1 (EX.refl _ _) (jok_lst hK h1 rr)⟩
      · cases q
        have r1 : Rp G.K G.cv O H1 v (.tup _) := r1
        cases r1 with
        | tup h1 rr => exact .inr ⟨_, _, rfl, by rw [hK]; exact h1, a1 _ _ E1 (EX.refl _ _) (jok_tup hK h1 rr)⟩
      · rename_i k
        have r1 : σ[k]? = some (some v) := r1
        split at q
        · rename_i xs hx
          cases q
          obtain ⟨b, h1, ⟨us, u1, u2⟩, _⟩ := E1.slot k _ hx
          rw [r1] at h1
          cases h1
          exact .inl ⟨b, us, rfl, SqL.of u1, a1 _ _ E1 (EX.refl _ _) (by rw [hK]; exact jok_slot r1)⟩
        · cases q
      · cases q⟩
/-- range(n), range(a, b) -/
def rng1 (rs : List Rv) : Option CSrc := match rs with
  | [.val (.int j)] => if -(2 ^ 62) ≤ j ∧ j < 2 ^ 62 then some (.of ((List.range j.toNat).map fun (i : Nat) => .int (0 + (i : Int)))) else none
  | _ => none
def rng2 (rs : List Rv) : Option CSrc := match rs with
  | [.val (.int i), .val (.int j)] => if (-(2 ^ 62) ≤ i ∧ i < 2 ^ 62) ∧ -(2 ^ 62) ≤ j ∧ j < 2 ^ 62 then some (.of ((List.range (j - i).toNat).map fun (k : Nat) => .int (i + (k : Int)))) else none
  | _ => none
def iRng (g : List Rv → Option CSrc) (f : Env → Out (List Rv)) : Env → Out CSrc := fun ρ => (f ρ).bind fun rs ρ1 => Out.of (g rs) ρ1
theorem iv_rng1 {a : Expr} {f : Env → Out (List Rv)} {p pos : Pos} (ha : Av X G W [a] f) (hg : Gl X "range") (hm : X.mg "range" = none) (hs : starEach [a] X.env = [(false, eval a X.env)] := by rfl) : Iv X G W tg (.Call (.Name "range" p) [a] [] pos) (iRng rng1 f) :=
  PIw_ (pi_range1 hg hm ha hs) fun σ H R ⟨O, ρ, E, a⟩ => ⟨O, ρ, E, by
    refine iv_in (R1 := RvA) (g := fun rs ρ1 => Out.of (rng1 rs) ρ1) E a fun rs ρ1 vs H1 E1 e1 r1 a1 => ?_
    cases q : rng1 rs with
    | none => rw [q] at a1; exact a1.elim
    | some c =>
      rw [q] at a1
      have a1 : ∀ J H', ER G O σ H' ρ1 → EX O H1 H' → JOk G O σ H' J c → R J H' := a1
      unfold rng1 at q
      split at q
      · split at q
        · rename_i hz
          cases q
          cases r1 with
          | cons r1 t =>
            cases t
            have r1 : Rp G.K G.cv O H1 _ (.int _) := r1
            cases r1
            exact ⟨_, rfl, hz.1, hz.2, a1 _ _ E1 (EX.refl _ _) rng_jok⟩
        · cases q
      · cases q⟩
theorem iv_rng2 {a b : Expr} {f : Env → Out (List Rv)} {p pos : Pos} (ha : Av X G W [a, b] f) (hg : Gl X "range") (hm : X.mg "range" = none) (hs : starEach [a, b] X.env = [(false, eval a X.env), (false, eval b X.env)] := by rfl) (hs2 : starEach [b] X.env = [(false, eval b X.env)] := by rfl) :
    Iv X G W tg (.Call (.Name "range" p) [a, b] [] pos) (iRng rng2 f) :=
  PIw_ (pi_range2 hg hm ha hs hs2) fun σ H R ⟨O, ρ, E, a⟩ => ⟨O, ρ, E, by
    refine iv_in (R1 := RvA) (g := fun rs ρ1 => Out.of (rng2 rs) ρ1) E a fun rs ρ1 vs H1 E1 e1 r1 a1 => ?_
    cases q : rng2 rs with
    | none => rw [q] at a1; exact a1.elim
    | some c =>
      rw [q] at a1
      have a1 : ∀ J H', ER G O σ H' ρ1 → EX O H1 H' → JOk G O σ H' J c → R J H' := a1
      unfold rng2 at q
      split at q
      · split at q
        · rename_i hz
          cases q
          cases r1 with
          | cons r1 t =>
            cases t with
            | cons r2 t =>
              cases t
              have r1 : Rp G.K G.cv O H1 _ (.int _) := r1
              have r2 : Rp G.K G.cv O H1 _ (.int _) := r2
              cases r1
              cases r2
              exact ⟨_, _, rfl, ⟨hz.1.1, hz.1.2, hz.2.1, hz.2.2⟩, a1 _ _ E1 (EX.refl _ _) rng_jok⟩
        · cases q
      · cases q⟩
end

/-! ### comprehensions -/
def wipeE : List Nat → Env → Env
  | [], ρ => ρ
  | v :: vs, ρ => (wipeE vs ρ).set v .un
@[simp] theorem wipeE_nil (ρ : Env) : wipeE [] ρ = ρ := rfl
@[simp] theorem wipeE_cons (v : Nat) (vs : List Nat) (ρ : Env) : wipeE (v :: vs) ρ = (wipeE vs ρ).set v .un := rfl
def keptS : Option Slot → Slot
  | some (.val d) => .val d
  | _ => .un
@[simp] theorem keptS_val (d : D) : keptS (some (.val d)) = .val d := rfl
@[simp] theorem keptS_un : keptS (some .un) = .un := rfl
def putBack (ρ1 : Env) : List Nat → Env → Env
  | [], ρ => ρ
  | v :: vs, ρ => (putBack ρ1 vs ρ).set v (keptS ρ1[v]?)
@[simp] theorem putBack_nil (ρ1 ρ : Env) : putBack ρ1 [] ρ = ρ := rfl
@[simp] theorem putBack_cons (ρ1 : Env) (v : Nat) (vs : List Nat) (ρ : Env) : putBack ρ1 (v :: vs) ρ = (putBack ρ1 vs ρ).set v (keptS ρ1[v]?) := rfl
theorem wipeE_len : ∀ (vs : List Nat) (ρ : Env), (wipeE vs ρ).length = ρ.length
  | [], _ => rfl
  | v :: vs, ρ => by rw [wipeE_cons, List.length_set, wipeE_len vs ρ]
theorem mem_ne {v j : Nat} {vs : List Nat} (e : ¬ v = j) : (j ∈ v :: vs) ↔ j ∈ vs := by
  rw [List.mem_cons]
  exact ⟨fun h => h.resolve_left (fun z => e z.symm), .inr⟩
theorem wipeE_get : ∀ (vs : List Nat) (ρ : Env) (j : Nat), (wipeE vs ρ)[j]? = if j ∈ vs then (if j < ρ.length then some .un else none) else ρ[j]?
  | [], ρ, j => by simp
  | v :: vs, ρ, j => by
    rw [wipeE_cons]
    by_cases e : v = j
    · subst e
      rw [if_pos (by simp)]
      by_cases hl : v < ρ.length
      · rw [List.getElem?_set_self (by rw [wipeE_len]; exact hl), if_pos hl]
      · rw [List.getElem?_eq_none (by rw [List.length_set, wipeE_len]; omega), if_neg hl]
    · rw [List.getElem?_set_ne e, wipeE_get vs ρ j]
      by_cases hj : j ∈ vs
      · rw [if_pos hj, if_pos ((mem_ne e).mpr hj)]
      · rw [if_neg hj, if_neg (fun z => hj ((mem_ne e).mp z))]
theorem putBack_len (ρ1 : Env) : ∀ (vs : List Nat) (ρ : Env), (putBack ρ1 vs ρ).length = ρ.length
  | [], _ => rfl
  | v :: vs, ρ => by rw [putBack_cons, List.length_set, putBack_len ρ1 vs ρ]
theorem putBack_get (ρ1 : Env) : ∀ (vs : List Nat) (ρ : Env) (j : Nat), (putBack ρ1 vs ρ)[j]? = if j ∈ vs then (if j < ρ.length then some (keptS ρ1[j]?) else none) else ρ[j]?
  | [], ρ, j => by simp
  | v :: vs, ρ, j => by
    rw [putBack_cons]
    by_cases e : v = j
    · subst e
      rw [if_pos (by simp)]
      by_cases hl : v < ρ.length
      · rw [List.getElem?_set_self (by rw [putBack_len]; exact hl), if_pos hl]
      · rw [List.getElem?_eq_none (by rw [List.length_set, putBack_len]; omega), if_neg hl]
    · rw [List.getElem?_set_ne e, putBack_get ρ1 vs ρ j]
      by_cases hj : j ∈ vs
      · rw [if_pos hj, if_pos ((mem_ne e).mpr hj)]
      · rw [if_neg hj, if_neg (fun z => hj ((mem_ne e).mp z))]
theorem ER.wipe {G : Gr} {O : AS} {σ σ2 : L2.St} {H : Hp} {ρ : Env} {vs : List Nat} (E : ER G O σ2 H ρ) (hw : L2.wipe σ2 vs = L2.wipe σ vs) : ER G O (L2.wipe σ vs) H (wipeE vs ρ) := by
  rw [← hw]
  refine ⟨by rw [wipeE_len, wipe_length]; exact E.len, E.sub, E.wsub, E.odom, E.dom, E.ext, E.tabs, fun i s h => ?_, fun i j a io io' o o' h1 h2 h3 h4 => ?_⟩
  · rw [wipeE_get] at h
    by_cases hi : i ∈ vs
    · rw [if_pos hi] at h
      split at h
      · cases h; trivial
      · cases h
    · rw [if_neg hi] at h
      have q := E.slot i s h
      cases s with
      | un => trivial
      | val d => obtain ⟨v, h1, h2⟩ := q; exact ⟨v, by rw [wipe_out hi]; exact h1, h2⟩
      | own io o => obtain ⟨a, h1, h2⟩ := q; exact ⟨a, by rw [wipe_out hi]; exact h1, h2⟩
  · rw [wipeE_get] at h1 h2
    by_cases hi : i ∈ vs
    · rw [if_pos hi] at h1; split at h1 <;> cases h1
    by_cases hj : j ∈ vs
    · rw [if_pos hj] at h2; split at h2 <;> cases h2
    rw [if_neg hi] at h1
    rw [if_neg hj] at h2
    rw [wipe_out hi] at h3
    rw [wipe_out hj] at h4
    exact E.inj i j a io io' o o' h1 h2 h3 h4
/-- behind the block: the names ahead of it -/
theorem ER.back {G : Gr} {O O1 : AS} {σ : L2.St} {H1 H : Hp} {ρ1 ρ : Env} {vs : List Nat} (E1 : ER G O1 σ H1 ρ1) (g : Gw O1 H1 O) (e : EX O H1 H) (E : ER G O (L2.wipe σ vs) H ρ) : ER G O σ H (putBack ρ1 vs ρ) := by
  refine ⟨by rw [putBack_len, E.len, wipe_length], E.sub, E.wsub, E.odom, E.dom, E.ext, E.tabs, fun i s h => ?_, fun i j a io io' o o' h1 h2 h3 h4 => ?_⟩
  · rw [putBack_get] at h
    by_cases hi : i ∈ vs
    · rw [if_pos hi] at h
      split at h
      · cases h
        cases q : ρ1[i]? with
        | none => trivial
        | some sl =>
          cases sl with
          | un => trivial
          | own io o => trivial
          | val d => obtain ⟨v, h1, h2⟩ := E1.slot i _ q; exact ⟨v, h1, (h2.gw g).ex e⟩
      · cases h
    · rw [if_neg hi] at h
      have q := E.slot i s h
      cases s with
      | un => trivial
      | val d => obtain ⟨v, h1, h2⟩ := q; exact ⟨v, by rw [wipe_out hi] at h1; exact h1, h2⟩
      | own io o => obtain ⟨a, h1, h2⟩ := q; exact ⟨a, by rw [wipe_out hi] at h1; exact h1, h2⟩
  · have nk : ∀ (x : Option Slot) (io : Bool) (o : OD), keptS x ≠ .own io o := fun x io o z => by
      cases x with
      | none => cases z
      | some s => cases s <;> cases z
    rw [putBack_get] at h1 h2
    by_cases hi : i ∈ vs
    · rw [if_pos hi] at h1; split at h1
      · exact absurd (Option.some.inj h1) (nk _ _ _)
      · cases h1
    by_cases hj : j ∈ vs
    · rw [if_pos hj] at h2; split at h2
      · exact absurd (Option.some.inj h2) (nk _ _ _)
      · cases h2
    rw [if_neg hi] at h1
    rw [if_neg hj] at h2
    exact E.inj i j a io io' o o' h1 h2 (by rw [wipe_out hi]; exact h3) (by rw [wipe_out hj]; exact h4)
/-- the turns of a comprehension -/
def compN (c : CSrc) (vs : List Nat) (tg : Tg) (ft : Env → Out Bool) (fe : Env → Out Rv) : Nat → Nat → List D → Env → Out (List D)
  | 0, _, acc, ρ => if c.fin ρ = true then .ok acc ρ else .bad
  | k + 1, i, acc, ρ => match c.it i ρ with
    | none => .bad
    | some d => match tg d ρ with
      | none => .bad
      | some ρ1 => match ft ρ1 with
        | .ok true ρ2 => match fe ρ2 with
          | .ok (.val e) ρ3 => if acc.length < 16777216 then compN c vs tg ft fe k (i + 1) (acc ++ [e]) (wipeE vs ρ3) else .bad
          | _ => .bad
        | .ok false ρ2 => compN c vs tg ft fe k (i + 1) acc (wipeE vs ρ2)
        | _ => .bad
def eCompL (fi : Env → Out CSrc) (vs : List Nat) (tg : Tg) (ft : Env → Out Bool) (fe : Env → Out Rv) : Env → Out (List D) := fun ρ => (fi ρ).bind fun c ρ1 =>
  if (c.slot.all fun k => !vs.contains k) = true then
    match compN c vs tg ft fe c.n 0 [] (wipeE vs ρ1) with
    | .ok ds ρ2 => .ok ds (putBack ρ1 vs ρ2)
    | _ => .bad
  else .bad
def eComp (fi : Env → Out CSrc) (vs : List Nat) (tg : Tg) (ft : Env → Out Bool) (fe : Env → Out Rv) : Env → Out Rv := fun ρ => (eCompL fi vs tg ft fe ρ).bind fun ds ρ1 => .ok (.val (.lst ds)) ρ1
abbrev WN : WX := fun _ _ _ _ => False
end EL

/-! E9: the comprehension's rule; statements. -/
namespace EL
open PySem PySem.Spec PyProof.Rows L2
section
variable {X : Cx} {G : Gr} {W : WX}
theorem ER.hide {O : AS} {σ : L2.St} {H : Hp} {ρ : Env} (E : ER G O σ H ρ) {p : Addr} {o : HO} (hp : H p = none) : ER G (O.hide p) σ (upd H p o) ρ := by
  have E1 := E.new (o := o) hp
  refine ⟨E1.len, fun a h => .inl (E1.sub a h), E1.wsub, E1.odom, fun a h => ?_, E1.ext, E1.tabs, fun i s h => ?_, E1.inj⟩
  · rcases h with h | h
    · exact E1.dom a h
    · rw [h, upd_same]; simp
  · have q := E.slot i s h
    have q1 := E1.slot i s h
    cases s with
    | un => trivial
    | val d => obtain ⟨v, h1, h2⟩ := q; exact ⟨v, h1, (h2.gw (Gw.hide hp)).ex (EX.new hp)⟩
    | own io o' =>
      obtain ⟨a, h1, h2, h3, h4⟩ := q
      obtain ⟨a', k1, k2, _, _⟩ := q1
      rw [h1] at k1
      cases k1
      refine ⟨a, h1, ?_, h3, h4⟩
      have hne : a ≠ p := fun z => E.dom a (O.sub a h3) (by rw [z]; exact hp)
      cases o' with
      | lst xs => obtain ⟨us, u1, u2⟩ := h2; exact ⟨us, by rw [upd_ne hne]; exact u1, (u2.gw (Gw.hide hp)).ex (EX.new hp)⟩
      | dk kvs => obtain ⟨us, u1, u2, u3⟩ := h2; exact ⟨us, by rw [upd_ne hne]; exact u1, u2, (u3.gw (Gw.hide hp)).ex (EX.new hp)⟩
      | dt kvs => obtain ⟨us, u1, u2, u3⟩ := h2; exact ⟨us, by rw [upd_ne hne]; exact u1, u2, (u3.gw (Gw.hide hp)).ex (EX.new hp)⟩
      | ins c fs => obtain ⟨C, dx, us, c1, u1, u2⟩ := h2; exact ⟨C, dx, us, c1, by rw [upd_ne hne]; exact u1, (u2.gw (Gw.hide hp)).ex (EX.new hp)⟩
/-- .. and it is seen no more -/
theorem ER.unhide {O : AS} {σ : L2.St} {H : Hp} {ρ : Env} {p : Addr} (E : ER G (O.hide p) σ H ρ) (hs : ∀ a, G.O0.av a → O.av a) : ER G O σ H ρ := by
  refine ⟨E.len, hs, E.wsub, E.odom, fun a h => E.dom a (.inl h), E.ext, E.tabs, fun i s h => ?_, E.inj⟩
  have q := E.slot i s h
  cases s with
  | un => trivial
  | val d => obtain ⟨v, h1, h2⟩ := q; exact ⟨v, h1, h2.less (O' := O) fun _ z => Or.inl z⟩
  | own io o => obtain ⟨a, h1, h2, h3, h4⟩ := q; exact ⟨a, h1, h2.less (O' := O) fun _ z => Or.inl z, h3, h4⟩
/-- a new list that no one else knows: a its address -/
structure NewL (G : Gr) (O : AS) (H0 H : Hp) (v : V) (ds : List D) (a : Addr) (us : List V) : Prop where
  v : v = .ref a
  old : H0 a = none
  at_ : H a = some (.lst us)
  items : RpA G.K G.cv (O.hide a) H us ds
theorem NewL.rp {O : AS} {H0 H : Hp} {v ds a us} (n : NewL G O H0 H v ds a us) (hd : ∀ a, O.av a → H0 a ≠ none) : Rp G.K G.cv O H v (.lst ds) := by
  rw [n.v]
  exact .lst (.inl ⟨.inl n.at_, fun z => hd a z n.old⟩) (n.items.less (O' := O) fun _ z => Or.inl z)
/-- the answer that a list is new -/
def ansF (G : Gr) (O : AS) (W : WX) (σ : L2.St) (H : Hp) (r : Out (List D)) (Q : VK) : Prop := match r with
  | .ok ds ρ' => ∀ v H' a us, ER G (O.hide a) σ H' ρ' → EX O H H' → NewL G O H H' v ds a us → Q v H'
  | .err c ρ' => ∀ (dd : DD c) H', ER G O σ H' ρ' → EX O H H' → W (G.cv c) dd.1 σ H'
  | .bad => False
def trF (G : Gr) (W : WX) (f : Env → Out (List D)) : TE := fun σ H Q => ∃ O ρ, ER G O σ H ρ ∧ ansF G O W σ H (f ρ) Q
abbrev Fv (X : Cx) (G : Gr) (W : WX) (e : Expr) (f : Env → Out (List D)) : Prop := PE X e (trF G W f)
def eFresh (f : Env → Out (List D)) : Env → Out Rv := fun ρ => (f ρ).bind fun ds ρ1 => .ok (.val (.lst ds)) ρ1
theorem ev_fresh {e : Expr} {f : Env → Out (List D)} (h : Fv X G W e f) : Ev X G W e (eFresh f) :=
  PEw_ h fun σ H Q ⟨O, ρ, E, a⟩ => ⟨O, ρ, E, by
    unfold eFresh at a
    cases q : f ρ with
    | ok ds ρ1 =>
      rw [q] at a
      intro v H' p us E' e' n
      exact ans_ok (R1 := RvR) (a := Rv.val (.lst ds)) a (E'.unhide E.sub) e' (n.rp E.dom)
    | err c ρ1 => rw [q] at a; exact a
    | bad => rw [q] at a; exact a⟩
theorem ansF_ex {O : AS} {σ : L2.St} {H H1 : Hp} {r : Out (List D)} {Q : VK} (e : EX O H H1) (a : ansF G O W σ H r Q) : ansF G O W σ H1 r Q := by
  cases r with
  | ok ds ρ' => exact fun v H2 p us E2 e2 n => a v H2 p us E2 (e.trans e2) ⟨n.v, e.back n.old, n.at_, n.items⟩
  | err c ρ' => exact fun dd H2 E2 e2 => a dd H2 E2 (e.trans e2)
  | bad => exact a
/-- a display -/
def fLst (fr : Env → Out (List Rv)) : Env → Out (List D) := fun ρ => (fr ρ).bind fun rs ρ1 => Out.of (storeL rs) ρ1
theorem fv_lst {es : List Expr} {fr : Env → Out (List Rv)} {pos : Pos} (h : Av X G W es fr) : Fv X G W (.List es pos) (fLst fr) :=
  PEw_ (pe_lst h) fun σ H Q ⟨O, ρ, E, a⟩ => ⟨O, ρ, E, by
    unfold fLst at a
    cases q : fr ρ with
    | ok rs ρ1 =>
      rw [q, Out.bind_ok] at a
      intro vs H1 E1 e1 r1
      cases h1 : storeL rs with
      | none => rw [h1] at a; exact a.elim
      | some ds =>
        rw [h1, Out.of_some] at a
        obtain ⟨h2, h3⟩ := storeL_some h1
        have r2 := r1.all h2
        refine ⟨by rw [r2.len, sizeLine_eq]; omega, fun p hp => ?_⟩
        exact a _ _ p vs (E1.hide hp) (e1.trans (EX.new hp)) ⟨rfl, e1.back hp, upd_same, (r2.gw (Gw.hide hp)).ex (EX.new hp)⟩
    | err c ρ1 => rw [q] at a; exact a
    | bad => rw [q] at a; exact a⟩
/-- a hidden list is written: the environment stands -/
theorem ER.hidden {O : AS} {σ : L2.St} {H : Hp} {ρ : Env} {p : Addr} {us us' : List V} (E : ER G (O.hide p) σ H ρ) (hp : H p = some (.lst us)) (hw : ¬ O.wr p) (hn : G.He p = none) : ER G (O.hide p) σ (upd H p (.lst us')) ρ := by
  have hx : EX (O.own p) H (upd H p (.lst us')) := EX.own (.inr rfl) hp ⟨fun _ z => (by cases z), fun _ _ z => (by cases z)⟩
  have rx : ∀ {v d}, Rp G.K G.cv (O.hide p) H v d → Rp G.K G.cv (O.hide p) (upd H p (.lst us')) v d := fun r => ((r.less (O := O.hide p) (O' := O.own p) fun _ z => z).ex hx).less (O := O.own p) (O' := O.hide p) fun _ z => z
  have rxA : ∀ {v d}, RpA G.K G.cv (O.hide p) H v d → RpA G.K G.cv (O.hide p) (upd H p (.lst us')) v d := fun r => ((r.less (O := O.hide p) (O' := O.own p) fun _ z => z).ex hx).less (O := O.own p) (O' := O.hide p) fun _ z => z
  have rxF : ∀ {v d}, RpF G.K G.cv (O.hide p) H v d → RpF G.K G.cv (O.hide p) (upd H p (.lst us')) v d := fun r => ((r.less (O := O.hide p) (O' := O.own p) fun _ z => z).ex hx).less (O := O.own p) (O' := O.hide p) fun _ z => z
  have nt : ∀ b o, H b = some o → (∀ xs, o ≠ .lst xs) → upd H p (.lst us') b = some o := fun b o e n => by
    rw [upd_ne (fun z => n us (by rw [z, hp] at e; exact (Option.some.inj e).symm))]; exact e
  refine ⟨E.len, E.sub, E.wsub, E.odom, fun a h => hx.dom a (E.dom a h), ⟨fun b o e n t => ?_, fun b xs e => hx.tups b xs (E.ext.tups b xs e), fun b o u e => hx.frzs b o u (E.ext.frzs b o u e), fun b e => hx.dom b (E.ext.dom b e)⟩, fun q hq => ?_, fun i s h => ?_, E.inj⟩
  · rw [upd_ne (fun z => by rw [z, hn] at e; cases e)]
    exact E.ext.keep b o e n t
  · obtain ⟨ps, h1, h2, h3⟩ := E.tabs q hq
    refine ⟨ps, nt _ _ h1 (fun xs z => by cases z), h2, fun pos cv' hc => ?_⟩
    obtain ⟨c, e1, e2⟩ := h3 pos cv' hc
    exact ⟨c, e1, nt _ _ e2 (fun xs z => by unfold LamX.CodeO at z; cases z)⟩
  · have q := E.slot i s h
    cases s with
    | un => trivial
    | val d => obtain ⟨v, h1, h2⟩ := q; exact ⟨v, h1, rx h2⟩
    | own io o =>
      obtain ⟨a, h1, h2, h3, h4⟩ := q
      have hne : a ≠ p := fun z => hw (by rw [← z]; exact h3)
      refine ⟨a, h1, ?_, h3, h4⟩
      cases o with
      | lst xs => obtain ⟨vs, u1, u2⟩ := h2; exact ⟨vs, by rw [upd_ne hne]; exact u1, rxA u2⟩
      | dk kvs => obtain ⟨vs, u1, u2, u3⟩ := h2; exact ⟨vs, by rw [upd_ne hne]; exact u1, u2, rxA u3⟩
      | dt kvs => obtain ⟨vs, u1, u2, u3⟩ := h2; exact ⟨vs, by rw [upd_ne hne]; exact u1, u2, rxA u3⟩
      | ins c fs => obtain ⟨C, dx, vs, c1, u1, u2⟩ := h2; exact ⟨C, dx, vs, c1, by rw [upd_ne hne]; exact u1, rxF u2⟩
theorem hidden_rpa {O : AS} {H : Hp} {p : Addr} {us us' : List V} {vs : List V} {ds : List D} (hp : H p = some (.lst us)) (r : RpA G.K G.cv (O.hide p) H vs ds) : RpA G.K G.cv (O.hide p) (upd H p (.lst us')) vs ds := by
  have hx : EX (O.own p) H (upd H p (.lst us')) := EX.own (.inr rfl) hp ⟨fun _ z => (by cases z), fun _ _ z => (by cases z)⟩
  exact ((r.less (O := O.hide p) (O' := O.own p) fun _ z => z).ex hx).less (O := O.own p) (O' := O.hide p) fun _ z => z

abbrev blkX (X : Cx) (s : Shared) (H : Hp) (scope : Scope) (C : Addr) (cl : List (Str × Addr)) (fp : List Addr) : Cx := X.blk s H scope (compEnvC scope cl C X.env) fp
theorem sb_wiped (vs : List Nat) (σ : L2.St) : Sb vs σ (L2.wipe σ vs) := ⟨wipe_length _ _, fun _ h => wipe_out h⟩
/-- tests of a comprehension's clause -/
abbrev Tsv (X : Cx) (G : Gr) (W : WX) (ifs : List Expr) (f : Env → Out Bool) : Prop := PTs X ifs (tr RvT G W f)
def tYesB : Env → Out Bool := fun ρ => .ok true ρ
theorem tsv_nil : Tsv X G W [] tYesB := ⟨fun pins s σ H Q I ⟨O, ρ, E, a⟩ => pts_nil.run pins s σ H Q I (ans_ok (R1 := RvT) (a := true) a E (EX.refl _ _) rfl)⟩
theorem tsv_one {c : Expr} {f : Env → Out Bool} (h : Tv X G W c f) : Tsv X G W [c] f := pts_one h
theorem comp_in {fi : Env → Out CSrc} {is vs : List Nat} {tg : Tg} {ft : Env → Out Bool} {fe : Env → Out Rv} (his : ∀ i ∈ is, i ∈ vs) {σ : L2.St} {H : Hp} {Q : VK} {O : AS} {ρ : Env} (E : ER G O σ H ρ) (a : ansF G O W σ H (eCompL fi vs tg ft fe ρ) Q) :
    tLc (tIv G W fi) (tGv G is tg) (tr RvT G WN ft) (tr RvR G WN fe) vs σ H Q := by
  refine ⟨O, ρ, E, ?_⟩
  unfold eCompL at a
  cases hfi : fi ρ with
  | bad => rw [hfi] at a; exact a
  | err c ρ1 => rw [hfi] at a; exact a
  | ok c ρ1 =>
    rw [hfi, Out.bind_ok] at a
    by_cases hso : (c.slot.all fun k => !vs.contains k) = true
    case neg => rw [if_neg hso] at a; exact a.elim
    rw [if_pos hso] at a
    cases hc : compN c vs tg ft fe c.n 0 [] (wipeE vs ρ1) with
    | bad => rw [hc] at a; exact a.elim
    | err _ _ => rw [hc] at a; exact a.elim
    | ok ds ρ2 =>
      rw [hc] at a
      have a : ∀ v H' p us, ER G (O.hide p) σ H' (putBack ρ1 vs ρ2) → EX O H H' → NewL G O H H' v ds p us → Q v H' := a
      intro J H1 E1 e1 jok D hD
      have slotk : ∀ (τ : L2.St), Sb vs σ τ → ∀ k, c.slot = some k → τ[k]? = σ[k]? := fun τ hτ k hk => by
        rw [hk] at hso
        exact hτ.2 k (by simpa using hso)
      have heD : G.He D = none := E1.ext.back hD
      have nwD : ¬ O.wr D := fun z => E1.dom D (O.sub D z) hD
      refine ⟨fun i m Hc => ∃ acc us ρc, m = c.n - i ∧ i ≤ c.n ∧ ER G (O.hide D) (L2.wipe σ vs) Hc ρc ∧ EX O H1 Hc ∧ Hc D = some (.lst us) ∧ RpA G.K G.cv (O.hide D) Hc us acc ∧ compN c vs tg ft fe (c.n - i) i acc ρc = .ok ds ρ2,
        ⟨c.n, [], [], wipeE vs ρ1, by simp, Nat.zero_le _, (E1.hide hD).wipe rfl, EX.new hD, upd_same, .nil, hc⟩, ?_⟩
      rintro i m Hc ⟨acc, us, ρc, rfl, hi, Ec, ec, hcD, rc, hcc⟩
      have gD : Gw O H1 (O.hide D) := Gw.hide hD
      by_cases hlt : i < c.n
      · right
        obtain ⟨k, hk⟩ : ∃ k, c.n - i = k + 1 := ⟨c.n - i - 1, by omega⟩
        have hk2 : c.n - (i + 1) = k := by omega
        rw [hk] at hcc
        unfold compN at hcc
        cases hit : c.it i ρc with
        | none => rw [hit] at hcc; cases hcc
        | some d =>
        rw [hit] at hcc
        simp only at hcc
        cases htg : tg d ρc with
        | none => rw [htg] at hcc; cases hcc
        | some ρt =>
        rw [htg] at hcc
        simp only at hcc
        obtain ⟨jgo, jyl⟩ := jok.go (O.hide D) (L2.wipe σ vs) Hc ρc i d Ec ec gD (slotk _ (sb_wiped vs σ)) hlt hit
        refine ⟨jgo, fun H' => ∃ acc us ρc, i + 1 ≤ c.n ∧ ER G (O.hide D) (L2.wipe σ vs) H' ρc ∧ EX O H1 H' ∧ H' D = some (.lst us) ∧ RpA G.K G.cv (O.hide D) H' us acc ∧ compN c vs tg ft fe (c.n - (i + 1)) (i + 1) acc ρc = .ok ds ρ2, ?_, ?_⟩
        · rintro H' ⟨acc', us', ρc', h1, h2, h3, h4, h5, h6⟩
          exact ⟨c.n - (i + 1), by omega, acc', us', ρc', rfl, h1, h2, h3, h4, h5, h6⟩
        · intro x H2 hy
          obtain ⟨s2, rx⟩ := jyl x H2 hy
          have e2 : EX O Hc H2 := EX.same s2
          refine ⟨O.hide D, ρc, d, ρt, Ec.same s2, rx, htg, fun σ' sb E' => ?_⟩
          have sbv : Sb vs (L2.wipe σ vs) σ' := sb.mono his
          have hwp : L2.wipe σ' vs = L2.wipe σ vs := by rw [sbv.wipe]; exact (sb_wiped vs σ).wipe
          have h2D : H2 D = some (.lst us) := s2 _ _ hcD
          have r2 : RpA G.K G.cv (O.hide D) H2 us acc := rc.ex (EX.same s2)
          have cd : ∀ {Ha Hb : Hp}, EX (O.hide D) Ha Hb → Ha D = some (.lst us) → Hb D = some (.lst us) := fun e h => e.keep D _ h nwD (fun ps z => by cases z)
          have exO : ∀ {Ha Hb : Hp}, EX (O.hide D) Ha Hb → EX O Ha Hb := fun e => ⟨e.keep, e.tups, e.frzs, e.dom⟩
          refine ⟨hwp, O.hide D, ρt, E', ?_⟩
          cases hft : ft ρt with
          | bad => rw [hft] at hcc; cases hcc
          | err _ _ => rw [hft] at hcc; cases hcc
          | ok b ρb =>
            rw [hft] at hcc
            intro v H3 E3 e3 hv
            have hv : v = b := hv
            subst hv
            have h3D := cd e3 h2D
            have r3 := r2.ex e3
            cases v with
            | false =>
              refine iteF ?_
              simp only at hcc
              exact ⟨acc, us, wipeE vs ρb, by omega, E3.wipe hwp, (ec.trans e2).trans (exO e3), h3D, r3, by rw [hk2]; exact hcc⟩
            | true =>
              refine iteT ⟨O.hide D, ρb, E3, ?_⟩
              simp only at hcc
              cases hfe : fe ρb with
              | bad => rw [hfe] at hcc; cases hcc
              | err _ _ => rw [hfe] at hcc; cases hcc
              | ok rv ρ3 =>
                rw [hfe] at hcc
                intro y H4 E4 e4 r4
                cases rv with
                | slot _ => cases hcc
                | val e =>
                  simp only at hcc
                  by_cases hz : acc.length < 16777216
                  · rw [if_pos hz] at hcc
                    have h4D := cd e4 h3D
                    have r5 := r3.ex e4
                    refine ⟨us, h4D, by rw [r5.len, sizeLine_eq]; exact hz, acc ++ [e], us ++ [y], wipeE vs ρ3, by omega, (E4.wipe hwp).hidden h4D nwD heD, ?_, upd_same, hidden_rpa h4D (r5.append (.cons r4 .nil)), by rw [hk2]; exact hcc⟩
                    have e5 := ((ec.trans e2).trans (exO e3)).trans (exO e4)
                    refine ⟨fun b o h n t => ?_, fun b xs h => ?_, fun b o u h => ?_, fun b h => ?_⟩
                    · rw [upd_ne (fun z => by rw [z, hD] at h; cases h)]; exact e5.keep b o h n t
                    · rw [upd_ne (fun z => by rw [z, hD] at h; cases h)]; exact e5.tups b xs h
                    · rw [upd_ne (fun z => by rw [z, hD] at h; cases h)]; exact e5.frzs b o u h
                    · rw [upd_ne (fun z => h (by rw [z]; exact hD))]; exact e5.dom b h
                  · rw [if_neg hz] at hcc; cases hcc
      · have hin : i = c.n := by omega
        subst hin
        left
        rw [Nat.sub_self] at hcc
        unfold compN at hcc
        by_cases hf : c.fin ρc = true
        · rw [if_pos hf] at hcc
          cases hcc
          refine ⟨jok.stop (O.hide D) (L2.wipe σ vs) Hc _ Ec ec gD (slotk _ (sb_wiped vs σ)) hf, ?_⟩
          exact a _ Hc D us (E1.back gD ⟨ec.keep, ec.tups, ec.frzs, ec.dom⟩ Ec) (e1.trans ec) ⟨rfl, e1.back hD, hcD, rc⟩
        · rw [if_neg hf] at hcc; cases hcc
theorem fv_comp {elt tg iter : Expr} {ifs : List Expr} {scope : Scope} {own : List (Str × Nat)} {pos : Pos} {fi : Env → Out CSrc} {is : List Nat} {g : Tg} {ft : Env → Out Bool} {fe : Env → Out Rv} (hN : X.N.Nodup) (ok : BlkOk X.N X.env.scope scope own)
    (hi : Iv X G W tg iter fi) (hg : ∀ (s : Shared) (H : Hp) (C : Addr) (cl : List (Str × Addr)) (fp : List Addr), Gv (blkX X s H scope C cl fp) G is tg g) (ht : ∀ (s : Shared) (H : Hp) (C : Addr) (cl : List (Str × Addr)) (fp : List Addr), Tsv (blkX X s H scope C cl fp) G WN ifs ft)
    (he : ∀ (s : Shared) (H : Hp) (C : Addr) (cl : List (Str × Addr)) (fp : List Addr), Ev (blkX X s H scope C cl fp) G WN elt fe) (his : (is.all fun i => (own.map (·.2)).contains i) = true := by rfl) (hc : X.calm = true := by rfl) (hs : ∀ x, foldedSetIterable iter X.env x = pure x := by intro _; rfl) :
    Fv X G W (.ListComp elt [⟨tg, iter, ifs, 0⟩] scope pos) (eCompL fi (own.map (·.2)) g ft fe) :=
  PEw_ (pe_lc hc hN hi ok hg ht he hs) fun σ H Q ⟨O, ρ, E, a⟩ => comp_in (fun i hi => by simpa using List.all_eq_true.mp his i hi) E a
end
end EL

/-! E10: statements. -/
namespace EL
open PySem PySem.Spec PyProof.Rows L2

inductive SO where
  | next (ρ : Env) | ret (r : Rv) (ρ : Env) | retF (ds : List D) (ρ : Env) | brk (ρ : Env) | cont (ρ : Env) | err (c : String) (ρ : Env) | bad
def SO.then (r : SO) (k : Env → SO) : SO := match r with
  | .next ρ => k ρ
  | r => r
@[simp] theorem SO.then_next (ρ : Env) (k : Env → SO) : (SO.next ρ).then k = k ρ := rfl
@[simp] theorem SO.then_ret (r : Rv) (ρ : Env) (k : Env → SO) : (SO.ret r ρ).then k = .ret r ρ := rfl
@[simp] theorem SO.then_retF (r : List D) (ρ : Env) (k : Env → SO) : (SO.retF r ρ).then k = .retF r ρ := rfl
@[simp] theorem SO.then_brk (ρ : Env) (k : Env → SO) : (SO.brk ρ).then k = .brk ρ := rfl
@[simp] theorem SO.then_cont (ρ : Env) (k : Env → SO) : (SO.cont ρ).then k = .cont ρ := rfl
@[simp] theorem SO.then_err (c : String) (ρ : Env) (k : Env → SO) : (SO.err c ρ).then k = .err c ρ := rfl
@[simp] theorem SO.then_bad (k : Env → SO) : (SO.bad).then k = .bad := rfl
/-- behind a turn of a loop -/
def SO.loop (r : SO) (k : Env → SO) : SO := match r with
  | .next ρ => k ρ
  | .cont ρ => k ρ
  | .brk ρ => .next ρ
  | r => r
@[simp] theorem SO.loop_next (ρ : Env) (k : Env → SO) : (SO.next ρ).loop k = k ρ := rfl
@[simp] theorem SO.loop_ret (r : Rv) (ρ : Env) (k : Env → SO) : (SO.ret r ρ).loop k = .ret r ρ := rfl
@[simp] theorem SO.loop_brk (ρ : Env) (k : Env → SO) : (SO.brk ρ).loop k = .next ρ := rfl
@[simp] theorem SO.loop_cont (ρ : Env) (k : Env → SO) : (SO.cont ρ).loop k = k ρ := rfl
@[simp] theorem SO.loop_err (c : String) (ρ : Env) (k : Env → SO) : (SO.err c ρ).loop k = .err c ρ := rfl
@[simp] theorem SO.loop_bad (k : Env → SO) : (SO.bad).loop k = .bad := rfl
/-- an expression's answer, then a statement's -/
def Out.so {α : Type} (r : Out α) (k : α → Env → SO) : SO := match r with
  | .ok a ρ => k a ρ
  | .err c ρ => .err c ρ
  | .bad => .bad
@[simp] theorem Out.so_ok {α : Type} (a : α) (ρ : Env) (k : α → Env → SO) : (Out.ok a ρ).so k = k a ρ := rfl
@[simp] theorem Out.so_err {α : Type} (c : String) (ρ : Env) (k : α → Env → SO) : (Out.err (α := α) c ρ).so k = .err c ρ := rfl
@[simp] theorem Out.so_bad {α : Type} (k : α → Env → SO) : (Out.bad (α := α)).so k = .bad := rfl
def SO.of (o : Option Env) : SO := match o with
  | some ρ => .next ρ
  | none => .bad
@[simp] theorem SO.of_some (ρ : Env) : SO.of (some ρ) = .next ρ := rfl
@[simp] theorem SO.of_none : SO.of none = .bad := rfl

def ansS (G : Gr) (O : AS) (W : WX) (H : Hp) (r : SO) (Dn : Ends) : Prop := match r with
  | .next ρ' => ∀ O' σ' H', Gw O H O' → EX O H H' → ER G O' σ' H' ρ' → Dn.nx σ' H'
  | .ret rv ρ' => ∀ O' σ' H' v, Gw O H O' → EX O H H' → ER G O' σ' H' ρ' → RvR G O' σ' H' v rv → Dn.rt v H'
  | .retF ds ρ' => ∀ O' σ' H' v a us, Gw O H O' → EX O H H' → ER G (O'.hide a) σ' H' ρ' → v = .ref a → ¬ O'.av a → G.He a = none → H' a = some (.lst us) → RpA G.K G.cv (O'.hide a) H' us ds → Dn.rt v H'
  | .brk ρ' => ∀ O' σ' H', Gw O H O' → EX O H H' → ER G O' σ' H' ρ' → Dn.bk σ' H'
  | .cont ρ' => ∀ O' σ' H', Gw O H O' → EX O H H' → ER G O' σ' H' ρ' → Dn.ct σ' H'
  | .err c ρ' => ∀ O' σ' (dd : DD c) H', Gw O H O' → EX O H H' → ER G O' σ' H' ρ' → W (G.cv c) dd.1 σ' H'
  | .bad => False
def tS (G : Gr) (W : WX) (f : Env → SO) : TS := fun Dn σ H => ∃ O ρ, ER G O σ H ρ ∧ ansS G O W H (f ρ) Dn
abbrev Sv (X : Cx) (G : Gr) (W : WX) (st : Stmt) (f : Env → SO) : Prop := PS X st (tS G W f)
abbrev Bv (X : Cx) (G : Gr) (W : WX) (st : List Stmt) (f : Env → SO) : Prop := PSs X st (tS G W f)
section
variable {X : Cx} {G : Gr} {W : WX} {O O1 : AS} {σ : L2.St} {H H1 : Hp} {ρ : Env}
theorem ansS_gw {r : SO} {Dn : Ends} (g : Gw O H O1) (e : EX O H H1) (a : ansS G O W H r Dn) : ansS G O1 W H1 r Dn := by
  cases r with
  | next ρ' => exact fun O2 σ2 H2 g2 e2 E2 => a O2 σ2 H2 (g.trans e g2) (e.gw g e2) E2
  | ret rv ρ' => exact fun O2 σ2 H2 v g2 e2 E2 r2 => a O2 σ2 H2 v (g.trans e g2) (e.gw g e2) E2 r2
  | retF ds ρ' => exact fun O2 σ2 H2 v p us g2 e2 E2 k1 k2 k3 k4 k5 => a O2 σ2 H2 v p us (g.trans e g2) (e.gw g e2) E2 k1 k2 k3 k4 k5
  | brk ρ' => exact fun O2 σ2 H2 g2 e2 E2 => a O2 σ2 H2 (g.trans e g2) (e.gw g e2) E2
  | cont ρ' => exact fun O2 σ2 H2 g2 e2 E2 => a O2 σ2 H2 (g.trans e g2) (e.gw g e2) E2
  | err c ρ' => exact fun O2 σ2 dd H2 g2 e2 E2 => a O2 σ2 dd H2 (g.trans e g2) (e.gw g e2) E2
  | bad => exact a
/-- an expression, then a statement's end -/
theorem ansS_in {α ν : Type} {R1 : Rl ν α} {f : Out α} {k : α → Env → SO} {Dn : Ends} {S : ν → Hp → Prop} (a : ansS G O W H (f.so k) Dn)
    (h : ∀ rv ρ' v H', ER G O σ H' ρ' → EX O H H' → R1 G O σ H' v rv → ansS G O W H' (k rv ρ') Dn → S v H') : ans R1 G O W σ H f S := by
  cases f with
  | ok rv ρ' => exact fun v H' E' e' r' => h rv ρ' v H' E' e' r' (ansS_gw (Gw.refl _ _) e' a)
  | err c ρ' => exact fun dd H' E' e' => a O σ dd H' (Gw.refl _ _) e' E'
  | bad => exact a
theorem ansS_inF {f : Out (List D)} {k : List D → Env → SO} {Dn : Ends} {S : VK} (a : ansS G O W H (f.so k) Dn)
    (h : ∀ ds ρ' v H' p us, ER G (O.hide p) σ H' ρ' → EX O H H' → NewL G O H H' v ds p us → ansS G O W H (k ds ρ') Dn → S v H') : ansF G O W σ H f S := by
  cases f with
  | ok ds ρ' => exact fun v H' p us E' e' n => h ds ρ' v H' p us E' e' n a
  | err c ρ' => exact fun dd H' E' e' => a O σ dd H' (Gw.refl _ _) e' E'
  | bad => exact a
theorem ansS_next {ρ' : Env} {Dn : Ends} {σ' : L2.St} (a : ansS G O W H (.next ρ') Dn) (E : ER G O σ' H ρ') : Dn.nx σ' H := a O σ' H (Gw.refl _ _) (EX.refl _ _) E
theorem bv_nil : Bv X G W [] .next := PSsw_ pss_nil fun Dn σ H ⟨O, ρ, E, a⟩ => ansS_next a E
def sSeq (f g : Env → SO) : Env → SO := fun ρ => (f ρ).then g
theorem seq_in {f g : Env → SO} {Dn : Ends} (E : ER G O σ H ρ) (a : ansS G O W H (sSeq f g ρ) Dn) : tS G W f { Dn with nx := tS G W g Dn } σ H := by
  refine ⟨O, ρ, E, ?_⟩
  unfold sSeq at a
  cases q : f ρ with
  | next ρ1 => rw [q] at a; exact fun O2 σ2 H2 g2 e2 E2 => ⟨O2, ρ1, E2, ansS_gw g2 e2 a⟩
  | ret _ _ => rw [q] at a; exact a
  | retF _ _ => rw [q] at a; exact a
  | brk _ => rw [q] at a; exact a
  | cont _ => rw [q] at a; exact a
  | err _ _ => rw [q] at a; exact a
  | bad => rw [q] at a; exact a
theorem bv_cons {st : Stmt} {rest : List Stmt} {f g : Env → SO} (h1 : Sv X G W st f) (h2 : Bv X G W rest g) : Bv X G W (st :: rest) (sSeq f g) := PSsw_ (pss_cons h1 h2) fun Dn σ H ⟨O, ρ, E, a⟩ => seq_in E a
theorem bv_one {st : Stmt} {f : Env → SO} (h1 : Sv X G W st f) : Bv X G W [st] f := pss_one h1
theorem sv_pass {pos} : Sv X G W (.Pass pos) .next := PSw_ ps_pass fun Dn σ H ⟨O, ρ, E, a⟩ => ansS_next a E
theorem sv_doc {x j pos pos'} : Sv X G W (.Expr (.Constant (.str x) j pos) pos') .next := PSw_ ps_doc fun Dn σ H ⟨O, ρ, E, a⟩ => ansS_next a E
theorem sv_brk {pos} : Sv X G W (.Break pos) .brk := PSw_ ps_break fun Dn σ H ⟨O, ρ, E, a⟩ => a O σ H (Gw.refl _ _) (EX.refl _ _) E
theorem sv_cont {pos} : Sv X G W (.Continue pos) .cont := PSw_ ps_continue fun Dn σ H ⟨O, ρ, E, a⟩ => a O σ H (Gw.refl _ _) (EX.refl _ _) E
def sExpr (f : Env → Out Rv) : Env → SO := fun ρ => (f ρ).so fun _ ρ1 => .next ρ1
theorem sv_expr {e : Expr} {f : Env → Out Rv} {pos : Pos} (h : Ev X G W e f) (hs : swapsWith e none pos.line X.env = pure false := by rfl) : Sv X G W (.Expr e pos) (sExpr f) :=
  PSw_ (ps_expr h hs) fun Dn σ H ⟨O, ρ, E, a⟩ => ⟨O, ρ, E, ansS_in (k := fun _ ρ1 => .next ρ1) a fun r ρ1 v H1 E1 e1 r1 a1 => ansS_next a1 E1⟩
def sRet (f : Env → Out Rv) : Env → SO := fun ρ => (f ρ).so fun r ρ1 => .ret r ρ1
theorem sv_ret {e : Expr} {f : Env → Out Rv} {pos : Pos} (h : Ev X G W e f) : Sv X G W (.Return (some e) pos) (sRet f) :=
  PSw_ (ps_ret h) fun Dn σ H ⟨O, ρ, E, a⟩ => ⟨O, ρ, E, ansS_in (k := fun r ρ1 => .ret r ρ1) a fun r ρ1 v H1 E1 e1 r1 a1 => a1 O σ H1 v (Gw.refl _ _) (EX.refl _ _) E1 r1⟩
def sRetF (f : Env → Out (List D)) : Env → SO := fun ρ => (f ρ).so fun r ρ1 => .retF r ρ1
theorem sv_retF {e : Expr} {f : Env → Out (List D)} {pos : Pos} (h : Fv X G W e f) : Sv X G W (.Return (some e) pos) (sRetF f) :=
  PSw_ (ps_ret h) fun Dn σ H ⟨O, ρ, E, a⟩ => ⟨O, ρ, E, ansS_inF (k := fun r ρ1 => .retF r ρ1) a fun ds ρ1 v H1 p us E1 e1 n a1 =>
    a1 O σ H1 v p us (Gw.refl _ _) e1 E1 n.v (fun z => E.dom p z n.old) (E.ext.back n.old) n.at_ n.items⟩
def sRetN : Env → SO := fun ρ => .ret (.val .non) ρ
theorem sv_retN {pos} : Sv X G W (.Return none pos) sRetN := PSw_ ps_retN fun Dn σ H ⟨O, ρ, E, a⟩ => a O σ H .non (Gw.refl _ _) (EX.refl _ _) E Rp.non
def sIf (ft : Env → Out Bool) (f g : Env → SO) : Env → SO := fun ρ => (ft ρ).so fun b ρ1 => if b = true then f ρ1 else g ρ1
theorem sv_if {c : Expr} {p q : List Stmt} {ft : Env → Out Bool} {f g : Env → SO} {pos : Pos} (hc : Tv X G W c ft) (ha : Bv X G W p f) (hb : Bv X G W q g) : Sv X G W (.If c p q pos) (sIf ft f g) :=
  PSw_ (ps_if hc ha hb) fun Dn σ H ⟨O, ρ, E, a⟩ => ⟨O, ρ, E, ansS_in (k := fun b ρ1 => if b = true then f ρ1 else g ρ1) a fun r ρ1 v H1 E1 e1 r1 a1 => by
    have r1 : v = r := r1
    subst r1
    cases v with
    | true => exact iteT ⟨O, ρ1, E1, a1⟩
    | false => exact iteF ⟨O, ρ1, E1, a1⟩⟩
/-- name = value -/
def sSet (i : Nat) (f : Env → Out Rv) : Env → SO := fun ρ => (f ρ).so fun r ρ1 => SO.of (r.store.map fun d => ρ1.set i (.val d))
theorem sv_set (i : Nat) {x : Str} {e : Expr} {f : Env → Out Rv} {pos pos' : Pos} (he : Ev X G W e f) (hN : X.N.Nodup) (hi : X.N[i]? = some x := by rfl) (hx : Loc X.env.scope x := by first | exact Or.inl rfl | exact Or.inr rfl)
    (hs : swapsWith e (some (.Name x pos')) pos.line X.env = pure false := by rfl) (hf : X.fn x = true ∨ X.env.scope.names.lookup x = some .local := by first | exact .inl rfl | exact .inr rfl | assumption) : Sv X G W (.Assign [.Name x pos'] e pos) (sSet i f) :=
  PSw_ (ps_set hN hi hx he hs hf) fun Dn σ H ⟨O, ρ, E, a⟩ => ⟨O, ρ, E, ansS_in (k := fun (r : Rv) (ρ1 : Env) => SO.of (r.store.map fun d => ρ1.set i (.val d))) a fun r ρ1 v H1 E1 e1 r1 a1 => by
    cases r with
    | slot k => exact a1.elim
    | val d => exact ansS_next a1 (E1.set i r1)⟩
theorem ER.setOwn {a : Addr} {us : List V} {ds : List D} (i : Nat) (E : ER G (O.hide a) σ H ρ) (ha : ¬ O.av a) (hn : G.He a = none) (hat : H a = some (.lst us)) (r : RpA G.K G.cv (O.hide a) H us ds) :
    ER G (O.own a) (σ.set i (some (.ref a))) H (ρ.set i (.own false (.lst ds))) := by
  have nw : ¬ O.wr a := fun z => ha (O.sub a z)
  refine ⟨by rw [List.length_set, List.length_set]; exact E.len, E.sub, fun b h => .inl (E.wsub b h), E.odom, E.dom, E.ext, E.tabs, fun j s h => ?_, fun j k b io io' o o' h1 h2 h3 h4 => ?_⟩
  · by_cases e : i = j
    · subst e
      by_cases hl : i < ρ.length
      · rw [List.getElem?_set_self hl] at h
        cases h
        exact ⟨a, by rw [List.getElem?_set_self (by rw [← E.len]; exact hl)], ⟨us, hat, r.less (O := O.hide a) (O' := O.own a) fun _ z => z⟩, .inr rfl, by rw [if_neg (by decide)]; exact hn⟩
      · rw [List.getElem?_eq_none (by simpa using hl)] at h; cases h
    · rw [List.getElem?_set_ne e] at h
      have q := E.slot j s h
      cases s with
      | un => trivial
      | val d => obtain ⟨w, h1, h2⟩ := q; exact ⟨w, by rw [List.getElem?_set_ne e]; exact h1, h2.less (O := O.hide a) (O' := O.own a) fun _ z => z⟩
      | own io o => obtain ⟨b, h1, h2, h3, h4⟩ := q; exact ⟨b, by rw [List.getElem?_set_ne e]; exact h1, h2.less (O := O.hide a) (O' := O.own a) fun _ z => z, .inl h3, h4⟩
  · have at_ : ∀ (j : Nat) (io : Bool) (o : OD), (ρ.set i (.own false (.lst ds)))[j]? = some (.own io o) → (σ.set i (some (.ref a)))[j]? = some (some (.ref b)) → (i = j ∧ b = a) ∨ (i ≠ j ∧ ρ[j]? = some (.own io o) ∧ σ[j]? = some (some (.ref b)) ∧ b ≠ a) := fun j io o h h' => by
      by_cases e : i = j
      · subst e
        by_cases hl : i < σ.length
        · rw [List.getElem?_set_self hl] at h'
          cases h'
          exact .inl ⟨rfl, rfl⟩
        · rw [List.getElem?_eq_none (by simpa using hl)] at h'; cases h'
      · rw [List.getElem?_set_ne e] at h h'
        refine .inr ⟨e, h, h', fun z => ?_⟩
        obtain ⟨c, k1, _, k3, _⟩ := E.slot j _ h
        rw [h'] at k1
        cases k1
        exact nw (by rw [← z]; exact k3)
    rcases at_ j io o h1 h3 with ⟨e1, e2⟩ | ⟨e1, q1, q2, q3⟩
    · rcases at_ k io' o' h2 h4 with ⟨f1, f2⟩ | ⟨f1, p1, p2, p3⟩
      · exact e1.symm.trans f1
      · exact absurd e2 p3
    · rcases at_ k io' o' h2 h4 with ⟨f1, f2⟩ | ⟨f1, p1, p2, p3⟩
      · exact absurd f2 q3
      · exact E.inj j k b io io' o o' q1 p1 q2 p2
/-- name = a new list, changed later on through this name -/
def sOwn (i : Nat) (f : Env → Out (List D)) : Env → SO := fun ρ => (f ρ).so fun ds ρ1 => .next (ρ1.set i (.own false (.lst ds)))
theorem own_in {i : Nat} {f : Env → Out (List D)} {Dn : Ends} (E : ER G O σ H ρ) (a : ansS G O W H (sOwn i f ρ) Dn) : trF G W f σ H fun v H1 => Dn.nx (σ.set i (some v)) H1 :=
  ⟨O, ρ, E, ansS_inF (k := fun ds ρ1 => .next (ρ1.set i (.own false (.lst ds)))) a fun ds ρ1 v H1 p us E1 e1 n a1 => by
    rw [n.v]
    exact a1 (O.own p) _ H1 (Gw.own n.old) e1 (ER.setOwn i E1 (fun z => E.dom p z n.old) (E.ext.back n.old) n.at_ n.items)⟩
theorem sv_own (i : Nat) {x : Str} {e : Expr} {f : Env → Out (List D)} {pos pos' : Pos} (he : Fv X G W e f) (hN : X.N.Nodup) (hi : X.N[i]? = some x := by rfl) (hx : Loc X.env.scope x := by first | exact Or.inl rfl | exact Or.inr rfl)
    (hs : swapsWith e (some (.Name x pos')) pos.line X.env = pure false := by rfl) (hf : X.fn x = true ∨ X.env.scope.names.lookup x = some .local := by first | exact .inl rfl | exact .inr rfl | assumption) : Sv X G W (.Assign [.Name x pos'] e pos) (sOwn i f) :=
  PSw_ (ps_set hN hi hx he hs hf) fun Dn σ H ⟨O, ρ, E, a⟩ => own_in E a
/-- name = [..] on one line -/
theorem sv_setComp (i : Nat) {y : Str} {py : Pos} {elt tg iter : Expr} {ifs : List Expr} {scope : Scope} {own : List (Str × Nat)} {pos spos : Pos} {fi : Env → Out CSrc} {is : List Nat} {g : Tg} {ft : Env → Out Bool} {fe : Env → Out Rv} (hN : X.N.Nodup)
    (ok : BlkOk X.N X.env.scope scope own) (hi : Iv X G W tg iter fi) (hg : ∀ (s : Shared) (H : Hp) (C : Addr) (cl : List (Str × Addr)) (fp : List Addr), Gv (blkX X s H scope C cl fp) G is tg g) (ht : ∀ (s : Shared) (H : Hp) (C : Addr) (cl : List (Str × Addr)) (fp : List Addr), Tsv (blkX X s H scope C cl fp) G WN ifs ft)
    (he : ∀ (s : Shared) (H : Hp) (C : Addr) (cl : List (Str × Addr)) (fp : List Addr), Ev (blkX X s H scope C cl fp) G WN elt fe) (hy : X.N[i]? = some y := by rfl) (hyl : X.env.scope.names.lookup y = some .local := by rfl)
    (hsw : swapsWith (.ListComp elt [⟨tg, iter, ifs, 0⟩] scope pos) (some (.Name y py)) spos.line X.env = pure true := by exact sw_true rfl rfl rfl (by decide +kernel)) (his : (is.all fun i => (own.map (·.2)).contains i) = true := by rfl) (hc : X.calm = true := by rfl) (hs : ∀ x, foldedSetIterable iter X.env x = pure x := by intro _; rfl) :
    Sv X G W (.Assign [.Name y py] (.ListComp elt [⟨tg, iter, ifs, 0⟩] scope pos) spos) (sSet i (eFresh (eCompL fi (own.map (·.2)) g ft fe))) :=
  PSw_ (ps_setLc hc hN hy hyl hsw hi ok hg ht he hs) fun Dn σ H ⟨O, ρ, E, a⟩ => by
    refine comp_in (fun i hi => by simpa using List.all_eq_true.mp his i hi) E ?_
    unfold sSet eFresh at a
    cases q : eCompL fi (own.map (·.2)) g ft fe ρ with
    | bad => rw [q] at a; exact a
    | err c ρ1 => rw [q] at a; exact fun dd H' E' e' => a O σ dd H' (Gw.refl _ _) e' E'
    | ok ds ρ1 =>
      rw [q, Out.bind_ok, Out.so_ok] at a
      intro v H' p us E' e' n
      exact a O _ H' (Gw.refl _ _) e' ((E'.unhide E.sub).set i (n.rp E.dom))
theorem sv_ownComp (i : Nat) {y : Str} {py : Pos} {elt tg iter : Expr} {ifs : List Expr} {scope : Scope} {own : List (Str × Nat)} {pos spos : Pos} {fi : Env → Out CSrc} {is : List Nat} {g : Tg} {ft : Env → Out Bool} {fe : Env → Out Rv} (hN : X.N.Nodup)
    (ok : BlkOk X.N X.env.scope scope own) (hi : Iv X G W tg iter fi) (hg : ∀ (s : Shared) (H : Hp) (C : Addr) (cl : List (Str × Addr)) (fp : List Addr), Gv (blkX X s H scope C cl fp) G is tg g) (ht : ∀ (s : Shared) (H : Hp) (C : Addr) (cl : List (Str × Addr)) (fp : List Addr), Tsv (blkX X s H scope C cl fp) G WN ifs ft)
    (he : ∀ (s : Shared) (H : Hp) (C : Addr) (cl : List (Str × Addr)) (fp : List Addr), Ev (blkX X s H scope C cl fp) G WN elt fe) (hy : X.N[i]? = some y := by rfl) (hyl : X.env.scope.names.lookup y = some .local := by rfl)
    (hsw : swapsWith (.ListComp elt [⟨tg, iter, ifs, 0⟩] scope pos) (some (.Name y py)) spos.line X.env = pure true := by exact sw_true rfl rfl rfl (by decide +kernel)) (his : (is.all fun i => (own.map (·.2)).contains i) = true := by rfl) (hc : X.calm = true := by rfl) (hs : ∀ x, foldedSetIterable iter X.env x = pure x := by intro _; rfl) :
    Sv X G W (.Assign [.Name y py] (.ListComp elt [⟨tg, iter, ifs, 0⟩] scope pos) spos) (sOwn i (eCompL fi (own.map (·.2)) g ft fe)) :=
  PSw_ (ps_setLc hc hN hy hyl hsw hi ok hg ht he hs) fun Dn σ H ⟨O, ρ, E, a⟩ => by
    refine comp_in (fun i hi => by simpa using List.all_eq_true.mp his i hi) E ?_
    obtain ⟨O2, ρ2, E2, a2⟩ := own_in E a
    unfold sOwn at a
    cases q : eCompL fi (own.map (·.2)) g ft fe ρ with
    | bad => rw [q] at a; exact a
    | err c ρ1 => rw [q] at a; exact fun dd H' E' e' => a O σ dd H' (Gw.refl _ _) e' E'
    | ok ds ρ1 =>
      rw [q, Out.so_ok] at a
      intro v H' p us E' e' n
      have h := a (O.own p) _ H' (Gw.own n.old) e' (ER.setOwn i E' (fun z => E.dom p z n.old) (E.ext.back n.old) n.at_ n.items)
      show Dn.nx (σ.set i (some v)) H'
      rw [n.v]
      exact h
/-- target = value -/
def sAsg (f : Env → Out Rv) (g : Tg) : Env → SO := fun ρ => (f ρ).so fun r ρ1 => SO.of (r.store.bind fun d => g d ρ1)
theorem sv_asg {tg e : Expr} {f : Env → Out Rv} {is : List Nat} {g : Tg} {pos : Pos} (he : Ev X G W e f) (hg : Gv X G is tg g) (hs : swapsWithSole [tg] e pos.line X.env = pure false := by rfl) (hw : swappedStores [tg] e X.env = pure none := by rfl)
    (h1 : (assignEach [tg] X.env).map (·.2) = [assign tg X.env] := by rfl) : Sv X G W (.Assign [tg] e pos) (sAsg f g) :=
  PSw_ (ps_asg he hg hs hw h1) fun Dn σ H ⟨O, ρ, E, a⟩ => ⟨O, ρ, E, ansS_in (k := fun (r : Rv) (ρ1 : Env) => SO.of (r.store.bind fun d => g d ρ1)) a fun r ρ1 v H1 E1 e1 r1 a1 => by
    cases r with
    | slot k => exact a1.elim
    | val d =>
      rw [store_val, Option.bind_some] at a1
      cases q : g d ρ1 with
      | none => rw [q] at a1; exact a1.elim
      | some ρ2 => rw [q] at a1; exact ⟨O, ρ1, d, ρ2, E1, r1, q, fun σ' sb E2 => ansS_next a1 E2⟩⟩

/-! ### for, while -/
def forN (c : CSrc) (tg : Tg) (fb : Env → SO) : Nat → Nat → Env → SO
  | 0, _, ρ => if c.fin ρ = true then .next ρ else .bad
  | k + 1, i, ρ => match c.it i ρ with
    | none => .bad
    | some d => match tg d ρ with
      | none => .bad
      | some ρ1 => (fb ρ1).loop fun ρ2 => forN c tg fb k (i + 1) ρ2
def sFor (fi : Env → Out CSrc) (tg : Tg) (fb : Env → SO) : Env → SO := fun ρ => (fi ρ).so fun c ρ1 => if c.slot.isNone = true then forN c tg fb c.n 0 ρ1 else .bad
theorem for_in {fi : Env → Out CSrc} {is : List Nat} {tg : Tg} {fb : Env → SO} {Dn : Ends} (E : ER G O σ H ρ) (a : ansS G O W H (sFor fi tg fb ρ) Dn) : tFor (tIv G W fi) (tGv G is tg) (tS G W fb) Dn σ H := by
  refine ⟨O, ρ, E, ?_⟩
  unfold sFor at a
  cases hfi : fi ρ with
  | bad => rw [hfi] at a; exact a
  | err c ρ1 => rw [hfi] at a; exact fun dd H' E' e' => a O σ dd H' (Gw.refl _ _) e' E'
  | ok c ρ1 =>
    rw [hfi, Out.so_ok] at a
    by_cases hs : c.slot.isNone = true
    case neg => rw [if_neg hs] at a; exact a.elim
    rw [if_pos hs] at a
    intro J H1 E1 e1 jok
    have a := ansS_gw (Gw.refl _ _) e1 a
    have slotk : ∀ (τ : L2.St) k, c.slot = some k → τ[k]? = σ[k]? := fun τ k hk => by rw [hk] at hs; cases hs
    refine ⟨fun i m σ' H' => ∃ O' ρ', m = c.n - i ∧ i ≤ c.n ∧ Gw O H1 O' ∧ EX O H1 H' ∧ ER G O' σ' H' ρ' ∧ ansS G O' W H' (forN c tg fb (c.n - i) i ρ') Dn, ⟨c.n, O, ρ1, by simp, Nat.zero_le _, Gw.refl _ _, EX.refl _ _, E1, a⟩, ?_⟩
    rintro i m σ' H' ⟨O', ρ', rfl, hi, g', e', E', a'⟩
    by_cases hlt : i < c.n
    · right
      obtain ⟨k, hk⟩ : ∃ k, c.n - i = k + 1 := ⟨c.n - i - 1, by omega⟩
      have hk2 : c.n - (i + 1) = k := by omega
      rw [hk] at a'
      unfold forN at a'
      cases hit : c.it i ρ' with
      | none => rw [hit] at a'; exact a'.elim
      | some d =>
      rw [hit] at a'
      simp only at a'
      cases htg : tg d ρ' with
      | none => rw [htg] at a'; exact a'.elim
      | some ρt =>
      rw [htg] at a'
      simp only at a'
      obtain ⟨jgo, jyl⟩ := jok.go O' σ' H' ρ' i d E' e' g' (slotk _) hlt hit
      refine ⟨jgo, fun σ3 H3 => ∃ O3 ρ3, i + 1 ≤ c.n ∧ Gw O H1 O3 ∧ EX O H1 H3 ∧ ER G O3 σ3 H3 ρ3 ∧ ansS G O3 W H3 (forN c tg fb (c.n - (i + 1)) (i + 1) ρ3) Dn, ?_, ?_⟩
      · rintro σ3 H3 ⟨O3, ρ3, h1, h2, h3, h4, h5⟩
        exact ⟨c.n - (i + 1), by omega, O3, ρ3, rfl, h1, h2, h3, h4, h5⟩
      · intro x H2 hy
        obtain ⟨s2, rx⟩ := jyl x H2 hy
        refine ⟨O', ρ', d, ρt, E'.same s2, rx, htg, fun σ2 sb E2 => ⟨O', ρt, E2, ?_⟩⟩
        have a2 := ansS_gw (Gw.refl O' H') (EX.same s2) a'
        have e2 : EX O H1 H2 := e'.trans (EX.same s2)
        have nx : ∀ ρ3, ansS G O' W H2 (forN c tg fb k (i + 1) ρ3) Dn → ∀ O3 σ3 H3, Gw O' H2 O3 → EX O' H2 H3 → ER G O3 σ3 H3 ρ3 →
            ∃ O3 ρ3, i + 1 ≤ c.n ∧ Gw O H1 O3 ∧ EX O H1 H3 ∧ ER G O3 σ3 H3 ρ3 ∧ ansS G O3 W H3 (forN c tg fb (c.n - (i + 1)) (i + 1) ρ3) Dn := fun ρ3 a3 O3 σ3 H3 g3 e3 E3 =>
          ⟨O3, ρ3, hlt, g'.trans e2 g3, e2.gw g' e3, E3, by rw [hk2]; exact ansS_gw g3 e3 a3⟩
        cases hfb : fb ρt with
        | next ρ3 => rw [hfb] at a2; exact nx ρ3 a2
        | cont ρ3 => rw [hfb] at a2; exact nx ρ3 a2
        | brk ρ3 => rw [hfb] at a2; exact a2
        | ret _ _ => rw [hfb] at a2; exact a2
        | retF _ _ => rw [hfb] at a2; exact a2
        | err _ _ => rw [hfb] at a2; exact a2
        | bad => rw [hfb] at a2; exact a2
    · have hin : i = c.n := by omega
      subst hin
      left
      rw [Nat.sub_self] at a'
      unfold forN at a'
      by_cases hf : c.fin ρ' = true
      · rw [if_pos hf] at a'
        exact ⟨jok.stop O' σ' H' ρ' E' e' g' (slotk _) hf, ansS_next a' E'⟩
      · rw [if_neg hf] at a'; exact a'.elim
theorem sv_for {tg iter : Expr} {body : List Stmt} {fi : Env → Out CSrc} {is : List Nat} {g : Tg} {fb : Env → SO} {pos : Pos} (hp : PassesOwn (model X.prog X.w) X.A X.env X.xe) (hi : Iv X G W tg iter fi) (hg : Gv X G is tg g) (hb : Bv X G W body fb) (hc : X.calm = true := by rfl)
    (hs : ∀ x, foldedSetIterable iter X.env x = pure x := by intro _; rfl) : Sv X G W (.For tg iter body [] pos) (sFor fi g fb) :=
  PSw_ (ps_for hp hc hi hg hb hs) fun Dn σ H ⟨O, ρ, E, a⟩ => for_in E a
def whileN (ft : Env → Out Bool) (fb : Env → SO) : Nat → Env → SO
  | 0, _ => .bad
  | k + 1, ρ => (ft ρ).so fun b ρ1 => if b = true then (fb ρ1).loop fun ρ2 => whileN ft fb k ρ2 else .next ρ1
theorem while_in {ft : Env → Out Bool} {fb : Env → SO} {n : Nat} {Dn : Ends} (E : ER G O σ H ρ) (a : ansS G O W H (whileN ft fb n ρ) Dn) : tWhile (tr RvT G W ft) (tS G W fb) Dn σ H := by
  refine ⟨fun m σ' H' => ∃ O' ρ', Gw O H O' ∧ EX O H H' ∧ ER G O' σ' H' ρ' ∧ ansS G O' W H' (whileN ft fb m ρ') Dn, ⟨n, O, ρ, Gw.refl _ _, EX.refl _ _, E, a⟩, ?_⟩
  rintro m σ' H' ⟨O', ρ', g', e', E', a'⟩
  cases m with
  | zero => exact a'.elim
  | succ k =>
    refine ⟨O', ρ', E', ansS_in (k := fun b ρ1 => if b = true then (fb ρ1).loop fun ρ2 => whileN ft fb k ρ2 else .next ρ1) a' fun r ρ1 v H1 E1 e1 r1 a1 => ?_⟩
    have r1 : v = r := r1
    subst r1
    cases v with
    | false => exact iteF (ansS_next a1 E1)
    | true =>
      refine iteT ⟨fun σ3 H3 => ∃ O3 ρ3, Gw O H O3 ∧ EX O H H3 ∧ ER G O3 σ3 H3 ρ3 ∧ ansS G O3 W H3 (whileN ft fb k ρ3) Dn, fun σ3 H3 ⟨O3, ρ3, h1, h2, h3, h4⟩ => ⟨k, Nat.lt_succ_self k, O3, ρ3, h1, h2, h3, h4⟩, O', ρ1, E1, ?_⟩
      have a1 : ansS G O' W H1 ((fb ρ1).loop fun ρ2 => whileN ft fb k ρ2) Dn := a1
      have e2 : EX O H H1 := e'.gw g' e1
      have nx : ∀ ρ3, ansS G O' W H1 (whileN ft fb k ρ3) Dn → ∀ O3 σ3 H3, Gw O' H1 O3 → EX O' H1 H3 → ER G O3 σ3 H3 ρ3 → ∃ O3 ρ3, Gw O H O3 ∧ EX O H H3 ∧ ER G O3 σ3 H3 ρ3 ∧ ansS G O3 W H3 (whileN ft fb k ρ3) Dn := fun ρ3 a3 O3 σ3 H3 g3 e3 E3 =>
        ⟨O3, ρ3, g'.trans e2 g3, e2.gw g' e3, E3, ansS_gw g3 e3 a3⟩
      cases hfb : fb ρ1 with
      | next ρ3 => rw [hfb] at a1; exact nx ρ3 a1
      | cont ρ3 => rw [hfb] at a1; exact nx ρ3 a1
      | brk ρ3 => rw [hfb] at a1; exact fun O3 σ3 H3 g3 e3 E3 => a1 O3 σ3 H3 g3 e3 E3
      | ret _ _ => rw [hfb] at a1; exact a1
      | retF _ _ => rw [hfb] at a1; exact a1
      | err _ _ => rw [hfb] at a1; exact a1
      | bad => rw [hfb] at a1; exact a1
theorem sv_while (n : Nat) {c : Expr} {body : List Stmt} {ft : Env → Out Bool} {fb : Env → SO} {pos : Pos} (hp : PassesOwn (model X.prog X.w) X.A X.env X.xe) (hc : Tv X G W c ft) (hb : Bv X G W body fb) : Sv X G W (.While c body [] pos) (whileN ft fb n) :=
  PSw_ (ps_while hp hc hb) fun Dn σ H ⟨O, ρ, E, a⟩ => while_in E a
end
end EL

/-! E11: defs: what they promise, how they are called. -/
namespace EL
open PySem PySem.Spec PyProof.Rows L2

/-- what a def answers: data, or something new; then what its parameters own -/
inductive FR where
  | ok (d : D) (as : List Slot) | new (o : OD) (as : List Slot) | err (c : String) (as : List Slot) | bad
abbrev Gb (K : PySem.W.Frag) (cv : String → Value) (T : List (Addr × Str)) : Gr := ⟨K, cv, T, AS.nil, fun _ => none, fun _ => none⟩
theorem OR.gr {G G' : Gr} (hK : G.K = G'.K) (hc : G.cv = G'.cv) {O : AS} {H : Hp} {a : Addr} {o : OD} (h : OR G O H a o) : OR G' O H a o := by
  obtain ⟨K, cv, T, O0, He, io⟩ := G
  obtain ⟨K', cv', T', O0', He', io'⟩ := G'
  subst hK hc
  cases o <;> exact h
theorem OR.ex {G : Gr} {O : AS} {H H' : Hp} {a : Addr} {o : OD} (e : EX O H H') (hs : ∀ u, H a = some u → (∀ ps, u ≠ .tbl ps) → H' a = some u) (h : OR G O H a o) : OR G O H' a o := by
  cases o with
  | lst xs => obtain ⟨us, h1, h2⟩ := h; exact ⟨us, hs _ h1 (fun ps z => by cases z), h2.ex e⟩
  | dk kvs => obtain ⟨us, h1, h2, h3⟩ := h; exact ⟨us, hs _ h1 (fun ps z => by cases z), h2, h3.ex e⟩
  | dt kvs => obtain ⟨us, h1, h2, h3⟩ := h; exact ⟨us, hs _ h1 (fun ps z => by cases z), h2, h3.ex e⟩
  | ins c fs => obtain ⟨C, dx, us, c1, h1, h2⟩ := h; exact ⟨C, dx, us, c1, hs _ h1 (fun ps z => by cases z), h2.ex e⟩
def ownAt (vs : List V) (as : List Slot) (b : Addr) : Prop := ∃ (i : Nat) (io : Bool) (o : OD), as[i]? = some (Slot.own io o) ∧ vs[i]? = some (V.ref b)
def AS.only (O : AS) (vs : List V) (as : List Slot) : AS := ⟨O.av, fun b => O.wr b ∧ ownAt vs as b, fun a h => O.sub a h.1⟩
/-- arguments -/
inductive AR (G : Gr) (O : AS) (H : Hp) : List V → List Slot → Prop
  | nil : AR G O H [] []
  | val {v : V} {vs : List V} {d : D} {as : List Slot} : Rp G.K G.cv O H v d → AR G O H vs as → AR G O H (v :: vs) (.val d :: as)
  | own {a : Addr} {vs : List V} {o : OD} {as : List Slot} : OR G O H a o → O.wr a → AR G O H vs as → AR G O H (.ref a :: vs) (.own true o :: as)
section
variable {G : Gr} {O : AS} {H H' : Hp}
theorem AR.len {vs as} (h : AR G O H vs as) : vs.length = as.length := by
  induction h with
  | nil => rfl
  | val _ _ ih => simp [ih]
  | own _ _ _ ih => simp [ih]
theorem AR.gr {G' : Gr} (hK : G.K = G'.K) (hc : G.cv = G'.cv) {vs as} (h : AR G O H vs as) : AR G' O H vs as := by
  induction h with
  | nil => exact .nil
  | val h _ ih => exact .val (by rw [← hK, ← hc]; exact h) ih
  | own h w _ ih => exact .own (h.gr hK hc) w ih
theorem AR.get {vs as} (h : AR G O H vs as) : ∀ {i : Nat} {s : Slot}, as[i]? = some s → (∃ v d, s = .val d ∧ vs[i]? = some v ∧ Rp G.K G.cv O H v d) ∨ ∃ a o, s = .own true o ∧ vs[i]? = some (.ref a) ∧ OR G O H a o ∧ O.wr a := by
  induction h with
  | nil => intro i s e; simp at e
  | @val v vs d as h _ ih =>
    intro i s e
    cases i with
    | zero => simp at e; subst e; exact .inl ⟨v, d, rfl, rfl, h⟩
    | succ i => simpa using ih (by simpa using e)
  | @own a vs o as h w _ ih =>
    intro i s e
    cases i with
    | zero => simp at e; subst e; exact .inr ⟨a, o, rfl, rfl, h, w⟩
    | succ i => simpa using ih (by simpa using e)
end
theorem AR.gw {G : Gr} {O O' : AS} {H : Hp} (g : Gw O H O') {vs as} (h : AR G O H vs as) : AR G O' H vs as := by
  induction h with
  | nil => exact .nil
  | val h _ ih => exact .val (h.gw g) ih
  | own h w _ ih => exact .own (h.gw g) (g.wsub _ w) ih
/-- behind a call: the wish by the answer -/
def ansG (K : PySem.W.Frag) (cv : String → Value) (T : List (Addr × Str)) (O : AS) (H : Hp) (vs : List V) (as : List Slot) (r : FR) (Q : VK) (E : XK) : Prop := match r with
  | .ok d as' => ∀ v H', EX (O.only vs as) H H' → LamX.Tabs T H' → AR (Gb K cv T) O H' vs as' → Rp K cv O H' v d → Q v H'
  | .new o as' => ∀ a H', EX (O.only vs as) H H' → LamX.Tabs T H' → AR (Gb K cv T) (O.hide a) H' vs as' → H a = none → OR (Gb K cv T) (O.hide a) H' a o → Q (.ref a) H'
  | .err c as' => ∀ (dd : DD c) H', EX (O.only vs as) H H' → LamX.Tabs T H' → AR (Gb K cv T) O H' vs as' → E (cv c) dd.1 H'
  | .bad => False
def injA (vs : List V) (as : List Slot) : Prop := ∀ (i j : Nat) (a : Addr) (io io' : Bool) (o o' : OD), as[i]? = some (.own io o) → as[j]? = some (.own io' o') → vs[i]? = some (.ref a) → vs[j]? = some (.ref a) → i = j
/-- THE PROMISE of a def that does m -/
def spG (K : PySem.W.Frag) (cv : String → Value) (T : List (Addr × Str)) (m : List Slot → FR) : Sp := fun vs H Q E => ∃ (O : AS) (as : List Slot), (∀ a, O.av a → H a ≠ none) ∧ LamX.Tabs T H ∧ AR (Gb K cv T) O H vs as ∧ injA vs as ∧ ansG K cv T O H vs as (m as) Q E

/-! ### a def's end -/
/-- what the parameters own at the end -/
def outA : List Slot → Env → Option (List Slot)
  | [], _ => some []
  | .val d :: as, _ :: ρ => (outA as ρ).map (.val d :: ·)
  | .own _ _ :: as, .own true o :: ρ => (outA as ρ).map (.own true o :: ·)
  | _, _ => none
@[simp] theorem outA_nil (ρ : Env) : outA [] ρ = some [] := by cases ρ <;> rfl
@[simp] theorem outA_val (d : D) (as : List Slot) (s : Slot) (ρ : Env) : outA (.val d :: as) (s :: ρ) = (outA as ρ).map (.val d :: ·) := by cases s <;> rfl
@[simp] theorem outA_own (io : Bool) (o o' : OD) (as : List Slot) (ρ : Env) : outA (.own io o :: as) (.own true o' :: ρ) = (outA as ρ).map (.own true o' :: ·) := rfl
def frOf (as : List Slot) (r : SO) : FR := match r with
  | .next ρ => match outA as ρ with | some as' => .ok .non as' | none => .bad
  | .ret (.val d) ρ => match outA as ρ with | some as' => .ok d as' | none => .bad
  | .ret (.slot i) ρ => match ρ[i]?, outA as ρ with
    | some (.own false o), some as' => .new o as'
    | _, _ => .bad
  | .retF ds ρ => match outA as ρ with | some as' => .new (.lst ds) as' | none => .bad
  | .err c ρ => match outA as ρ with | some as' => .err c as' | none => .bad
  | _ => .bad
def mOf (n N : Nat) (fb : Env → SO) : List Slot → FR := fun as => if as.length = n then frOf as (fb (as ++ List.replicate (N - n) .un)) else .bad
def ioOf (vs : List V) (as : List Slot) : Nat → Option Addr := fun i => match as[i]?, vs[i]? with
  | some (.own _ _), some (.ref a) => some a
  | _, _ => none
theorem ioOf_own {vs : List V} {as : List Slot} {i : Nat} {io : Bool} {o : OD} {a : Addr} (h1 : as[i]? = some (.own io o)) (h2 : vs[i]? = some (.ref a)) : ioOf vs as i = some a := by
  unfold ioOf
  rw [h1, h2]
theorem outA_ar {G : Gr} {O O2 : AS} {H H' : Hp} {σ' : L2.St} (hl : ∀ b, O.av b → O2.av b) (e : EX O H H') : ∀ {vs : List V} {as : List Slot} {ρ : Env} {as' : List Slot} (k : Nat), AR G O H vs as →
    (∀ i s, ρ[i]? = some s → SlotR G O2 σ' H' (k + i) s) → (∀ i io o a, as[i]? = some (.own io o) → vs[i]? = some (.ref a) → G.io (k + i) = some a) → outA as ρ = some as' → AR G O H' vs as' := by
  intro vs as ρ as' k h
  induction h generalizing ρ as' k with
  | nil => intro _ _ q; simp at q; subst q; exact .nil
  | @val v vs d as h _ ih =>
    intro hs hio q
    cases ρ with
    | nil => cases q
    | cons s ρ =>
      rw [outA_val] at q
      cases q1 : outA as ρ with
      | none => rw [q1] at q; cases q
      | some as2 =>
        rw [q1] at q; cases q
        refine .val (h.ex e) (ih (k + 1) (fun i s h1 => ?_) (fun i io o a h1 h2 => ?_) q1)
        · have := hs (i + 1) s (by simpa using h1)
          rw [show k + (i + 1) = k + 1 + i from by omega] at this
          exact this
        · have := hio (i + 1) io o a (by simpa using h1) (by simpa using h2)
          rw [show k + (i + 1) = k + 1 + i from by omega] at this
          exact this
  | @own a vs o as h w _ ih =>
    intro hs hio q
    cases ρ with
    | nil => cases q
    | cons s ρ =>
      cases s with
      | un => cases q
      | val _ => cases q
      | own io o' =>
        cases io with
        | false => cases q
        | true =>
          rw [outA_own] at q
          cases q1 : outA as ρ with
          | none => rw [q1] at q; cases q
          | some as2 =>
            rw [q1] at q; cases q
            obtain ⟨a', _, k2, k3, k4⟩ := hs 0 _ rfl
            rw [if_pos rfl] at k4
            have e1 := hio 0 true o a rfl rfl
            rw [k4.1] at e1
            cases e1
            refine .own (k2.less hl) w (ih (k + 1) (fun i s h1 => ?_) (fun i io o a h1 h2 => ?_) q1)
            · have := hs (i + 1) s (by simpa using h1)
              rw [show k + (i + 1) = k + 1 + i from by omega] at this
              exact this
            · have := hio (i + 1) io o a (by simpa using h1) (by simpa using h2)
              rw [show k + (i + 1) = k + 1 + i from by omega] at this
              exact this
section
variable {P : Program} {w : World} {K : PySem.W.Frag} {mg : Str → Option Value} {base : Heap} {x qual : Str} {params : Arguments} {body : List Stmt} {scope : Scope} {f : Addr} {fd : FuncData} {cv : String → Value} {T : List (Addr × Str)}
/-- the ground of a def's run -/
def Gf (K : PySem.W.Frag) (cv : String → Value) (T : List (Addr × Str)) (O : AS) (H : Hp) (vs : List V) (as : List Slot) : Gr := ⟨K, cv, T, O.only vs as, H, ioOf vs as⟩
theorem startE {N : List Str} {vs : List V} {as : List Slot} {O : AS} {H : Hp} {n : Nat} (hn : as.length = n) (hN : n ≤ N.length) (hd : ∀ a, O.av a → H a ≠ none) (ht : LamX.Tabs T H) (r : AR (Gb K cv T) O H vs as) (hi : injA vs as) :
    ER (Gf K cv T O H vs as) (O.only vs as) (L2.start N vs) H (as ++ List.replicate (N.length - n) .un) := by
  have hl := r.len
  have vget : ∀ {i : Nat} {v : V}, vs[i]? = some v → (L2.start N vs)[i]? = some (some v) := fun {i v} h => by
    unfold L2.start
    have hlt : i < vs.length := (List.getElem?_eq_some_iff.mp h).1
    rw [List.getElem?_append_left (by simpa using hlt), List.getElem?_map, h]
    rfl
  have aget : ∀ {i : Nat} {s : Slot}, (as ++ List.replicate (N.length - n) Slot.un)[i]? = some s → as[i]? = some s ∨ s = .un := fun {i s} h => by
    by_cases hlt : i < as.length
    · rw [List.getElem?_append_left hlt] at h; exact .inl h
    · rw [List.getElem?_append_right (by omega), List.getElem?_replicate] at h
      split at h
      · cases h; exact .inr rfl
      · cases h
  refine ⟨?_, fun _ h => h, fun _ h => h, hd, hd, EX.refl _ _, ht, fun i s h => ?_, fun i j a io io' o o' h1 h2 h3 h4 => ?_⟩
  · unfold L2.start
    rw [List.length_append, List.length_append, List.length_replicate, List.length_replicate, List.length_map, hl, hn]
  · rcases aget h with h | h
    · rcases r.get h with ⟨v, d, rfl, h2, h3⟩ | ⟨a, o, rfl, h2, h3, h4⟩
      · exact ⟨v, vget h2, Rp.less (O := O) (O' := O.only vs as) (fun _ z => z) h3⟩
      · refine ⟨a, vget h2, OR.gr (G := Gb K cv T) rfl rfl (OR.less (O := O) (O' := O.only vs as) (fun _ z => z) h3), ⟨h4, i, true, o, h, h2⟩, ?_⟩
        rw [if_pos rfl]
        exact ⟨ioOf_own h h2, h4, i, true, o, h, h2⟩
    · rw [h]; trivial
  · rcases aget h1 with k1 | k1
    · rcases aget h2 with k2 | k2
      · have vb : ∀ {i : Nat} {io : Bool} {o : OD}, as[i]? = some (.own io o) → (L2.start N vs)[i]? = some (some (V.ref a)) → vs[i]? = some (.ref a) := fun {i io o} h h' => by
          rcases r.get h with ⟨v, d, z, _⟩ | ⟨b, _, _, h2, _⟩
          · cases z
          · rw [vget h2] at h'; cases h'; exact h2
        exact hi i j a io io' o o' k1 k2 (vb k1 h3) (vb k2 h4)
      · cases k2
    · cases k1
theorem fr_out {O O2 Ox : AS} {H H' : Hp} {vs : List V} {as as' : List Slot} {ρ' : Env} {σ' : L2.St} (g : Gw O H Ox) (hx : ∀ b, Ox.av b → O2.av b) (r : AR (Gb K cv T) O H vs as) (E : ER (Gf K cv T O H vs as) O2 σ' H' ρ') (h : outA as ρ' = some as') : AR (Gb K cv T) Ox H' vs as' := by
  have e : EX Ox H H' := E.ext.mono fun b z => g.wsub b z.1
  have r2 : AR (Gf K cv T O H vs as) Ox H vs as := AR.gr (G := Gb K cv T) (G' := Gf K cv T O H vs as) rfl rfl (r.gw g)
  exact AR.gr (G := Gf K cv T O H vs as) (G' := Gb K cv T) rfl rfl (outA_ar (O := Ox) (O2 := O2) (σ' := σ') hx e 0 r2 (fun i s h => by rw [Nat.zero_add]; exact E.slot i s h) (fun i io o a h1 h2 => by rw [Nat.zero_add]; exact ioOf_own h1 h2) h)
/-- the end of a def's body -/
theorem fr_end {N : List Str} {vs : List V} {as : List Slot} {O : AS} {H : Hp} {n : Nat} {fb : Env → SO} {Q : VK} {E : XK} (hn : as.length = n) (hN : n ≤ N.length) (hd : ∀ a, O.av a → H a ≠ none) (ht : LamX.Tabs T H) (r : AR (Gb K cv T) O H vs as) (hi : injA vs as)
    (h : ansG K cv T O H vs as (mOf n N.length fb as) Q E) : tS (Gf K cv T O H vs as) (fun cls d _ H => E cls d H) fb { nx := fun _ H' => Q .non H', rt := Q } (L2.start N vs) H := by
  refine ⟨O.only vs as, _, startE hn hN hd ht r hi, ?_⟩
  unfold mOf at h
  rw [if_pos hn] at h
  have oNone : ∀ {o : Option (List Slot)} {g : List Slot → FR}, ansG K cv T O H vs as (match o with | some as' => g as' | none => .bad) Q E → ∃ as', o = some as' ∧ ansG K cv T O H vs as (g as') Q E := fun {o g} z => by
    cases o with
    | none => exact z.elim
    | some as' => exact ⟨as', rfl, z⟩
  cases q : fb (as ++ List.replicate (N.length - n) .un) with
  | next ρ' =>
    rw [q] at h
    obtain ⟨as', h1, h2⟩ := oNone h
    exact fun O' σ' H' _ _ E' => h2 .non H' E'.ext E'.tabs (fr_out (Gw.refl _ _) E'.sub r E' h1) .non
  | ret rv ρ' =>
    rw [q] at h
    cases rv with
    | val d =>
      obtain ⟨as', h1, h2⟩ := oNone h
      exact fun O' σ' H' v _ _ E' rr => h2 v H' E'.ext E'.tabs (fr_out (Gw.refl _ _) E'.sub r E' h1) (Rp.less (O := O') (O' := O) E'.sub rr)
    | slot i =>
      unfold frOf at h
      simp only at h
      intro O' σ' H' v _ _ E' rr
      cases q1 : ρ'[i]? with
      | none => rw [q1] at h; exact h.elim
      | some s =>
        rw [q1] at h
        cases s with
        | un => exact h.elim
        | val _ => exact h.elim
        | own io o =>
          cases io with
          | true => exact h.elim
          | false =>
            cases q2 : outA as ρ' with
            | none => rw [q2] at h; exact h.elim
            | some as' =>
              rw [q2] at h
              obtain ⟨a, k1, k2, k3, k4⟩ := E'.slot i _ q1
              have rr : σ'[i]? = some (some v) := rr
              rw [rr] at k1
              cases k1
              rw [if_neg (by decide)] at k4
              have hx : ∀ b, (O.hide a).av b → O'.av b := fun b z => by
                rcases z with z | z
                · exact E'.sub b z
                · rw [z]; exact O'.sub a k3
              refine h a H' E'.ext E'.tabs (fr_out (Gw.hide k4) hx r E' q2) k4 (OR.gr (G := Gf K cv T O H vs as) rfl rfl (k2.less hx))
  | retF ds ρ' =>
    rw [q] at h
    obtain ⟨as', h1, h2⟩ := oNone h
    intro O' σ' H' v a us _ _ E' ev na ha hat ri
    rw [ev]
    have hx : ∀ b, (O.hide a).av b → (O'.hide a).av b := fun b z => by
      rcases z with z | z
      · exact E'.sub b z
      · exact .inr z
    have E2 : AR (Gb K cv T) (O.hide a) H' vs as' := fr_out (Gw.hide ha) hx r E' h1
    refine h2 a H' E'.ext E'.tabs E2 ha ⟨us, hat, ri.less (O := O'.hide a) (O' := O.hide a) hx⟩
  | brk ρ' => rw [q] at h; exact h.elim
  | cont ρ' => rw [q] at h; exact h.elim
  | err c ρ' =>
    rw [q] at h
    obtain ⟨as', h1, h2⟩ := oNone h
    exact fun O' σ' dd H' _ _ E' => h2 dd H' E'.ext E'.tabs (fr_out (Gw.refl _ _) E'.sub r E' h1)
  | bad => rw [q] at h; exact h.elim
/-- THE RULE for a def -/
theorem fn_ok {CX : CXT} {N ps : List Str} {k : Nat} {fb : Env → SO} (F : FunD K x qual params body scope [] [] f fd) (S : FnScope N ps scope) (hN : ps.length ≤ N.length := by decide)
    (hb : ∀ (cdv : Value) (A : Around) (outer : List PySem.Env) (s : Shared) (H : Hp) (E : XK) (O : AS) (vs : List V) (as : List Slot), Room k (A.deeper (envOfC qual scope s.heap.objs.size f cdv)) → Bv (cxOf CX P w K mg base N qual scope f cdv A outer s H E) (Gf K cv T O H vs as) (fun cls d _ H => E cls d H) body fb) :
    FnOk P w K mg base CX (k + 1) f fd ps (spG K cv T (mOf ps.length N.length fb)) := by
  have lenA : ∀ {as : List Slot}, (∀ Q E O H vs, ansG K cv T O H vs as (mOf ps.length N.length fb as) Q E → as.length = ps.length) := fun {as} Q E O H vs h => by
    unfold mOf at h
    split at h
    · assumption
    · exact h.elim
  refine F.ok S (fun vs H Q E h => ?_) fun cdv A outer s H vs Q E hr h => ?_
  · obtain ⟨O, as, _, _, r, _, h⟩ := h
    rw [r.len]
    exact lenA Q E O H vs h
  · obtain ⟨O, as, hd, ht, r, hi, h⟩ := h
    exact ⟨_, hb cdv A outer s H E O vs as hr, fr_end (lenA Q E O H vs h) hN hd ht r hi h⟩
end

/-! ### calls -/
def argOf (r : Rv) (ρ : Env) : Option Slot := match r with
  | .val d => some (.val d)
  | .slot k => match ρ[k]? with
    | some (.own _ o) => some (.own true o)
    | _ => none
def argsOf : List Rv → Env → Option (List Slot)
  | [], _ => some []
  | r :: rs, ρ => match argOf r ρ, argsOf rs ρ with
    | some s, some as => some (s :: as)
    | _, _ => none
@[simp] theorem argsOf_nil (ρ : Env) : argsOf [] ρ = some [] := rfl
@[simp] theorem argsOf_val (d : D) (rs : List Rv) (ρ : Env) : argsOf (.val d :: rs) ρ = (argsOf rs ρ).map (.val d :: ·) := by
  show (match some (Slot.val d), argsOf rs ρ with | some s, some as => some (s :: as) | _, _ => none) = _
  cases argsOf rs ρ <;> rfl
def isSlot (k : Nat) : Rv → Bool
  | .slot j => j == k
  | .val _ => false
def apart : List Rv → Bool
  | [] => true
  | .val _ :: rs => apart rs
  | .slot k :: rs => !rs.any (isSlot k) && apart rs
@[simp] theorem apart_nil : apart [] = true := rfl
@[simp] theorem apart_val (d : D) (rs : List Rv) : apart (.val d :: rs) = apart rs := rfl
@[simp] theorem apart_slot (k : Nat) (rs : List Rv) : apart (.slot k :: rs) = (!rs.any (isSlot k) && apart rs) := rfl
/-- behind the call: what the slots own now -/
def backA : List Rv → List Slot → Env → Option Env
  | [], [], ρ => some ρ
  | .val _ :: rs, .val _ :: as, ρ => backA rs as ρ
  | .slot k :: rs, .own _ o :: as, ρ => match ρ[k]? with
    | some (.own io _) => backA rs as (ρ.set k (.own io o))
    | _ => none
  | _, _, _ => none
@[simp] theorem backA_nil (ρ : Env) : backA [] [] ρ = some ρ := rfl
@[simp] theorem backA_val (d e : D) (rs : List Rv) (as : List Slot) (ρ : Env) : backA (.val d :: rs) (.val e :: as) ρ = backA rs as ρ := rfl
theorem backA_len : ∀ {rs : List Rv} {as : List Slot} {ρ ρ' : Env}, backA rs as ρ = some ρ' → ρ'.length = ρ.length
  | [], [], _, _, h => by cases h; rfl
  | [], _ :: _, _, _, h => by cases h
  | .val _ :: _, [], _, _, h => by cases h
  | .val _ :: rs, .un :: as, _, _, h => by cases h
  | .val _ :: rs, .own _ _ :: as, _, _, h => by cases h
  | .val _ :: rs, .val _ :: as, ρ, ρ', h => backA_len (rs := rs) (as := as) h
  | .slot k :: _, [], _, _, h => by cases h
  | .slot k :: _, .un :: _, _, _, h => by cases h
  | .slot k :: _, .val _ :: _, _, _, h => by cases h
  | .slot k :: rs, .own _ o :: as, ρ, ρ', h => by
    have h : (match ρ[k]? with | some (.own io _) => backA rs as (ρ.set k (.own io o)) | _ => none) = some ρ' := h
    split at h
    · rw [backA_len h, List.length_set]
    · cases h
theorem backA_out {j : Nat} : ∀ {rs : List Rv} {as : List Slot} {ρ ρ' : Env}, backA rs as ρ = some ρ' → rs.any (isSlot j) = false → ρ'[j]? = ρ[j]?
  | [], [], _, _, h, _ => by cases h; rfl
  | [], _ :: _, _, _, h, _ => by cases h
  | .val _ :: _, [], _, _, h, _ => by cases h
  | .val _ :: rs, .un :: as, _, _, h, _ => by cases h
  | .val _ :: rs, .own _ _ :: as, _, _, h, _ => by cases h
  | .val _ :: rs, .val _ :: as, ρ, ρ', h, n => backA_out (rs := rs) (as := as) h (by simpa [isSlot] using n)
  | .slot k :: _, [], _, _, h, _ => by cases h
  | .slot k :: _, .un :: _, _, _, h, _ => by cases h
  | .slot k :: _, .val _ :: _, _, _, h, _ => by cases h
  | .slot k :: rs, .own _ o :: as, ρ, ρ', h, n => by
    have h : (match ρ[k]? with | some (.own io _) => backA rs as (ρ.set k (.own io o)) | _ => none) = some ρ' := h
    rw [List.any_cons, Bool.or_eq_false_iff] at n
    have n1 : k ≠ j := by
      have := n.1
      simpa [isSlot] using this
    split at h
    · rw [backA_out h n.2, List.getElem?_set_ne n1]
    · cases h
theorem backA_in {j : Nat} : ∀ {rs : List Rv} {as : List Slot} {ρ ρ' : Env} {i : Nat}, backA rs as ρ = some ρ' → apart rs = true → rs[i]? = some (.slot j) → ∃ io io' o o', as[i]? = some (.own io' o') ∧ ρ[j]? = some (.own io o) ∧ ρ'[j]? = some (.own io o')
  | [], _, _, _, _, _, _, e => by simp at e
  | .val _ :: _, [], _, _, _, h, _, _ => by cases h
  | .val _ :: rs, .un :: as, _, _, _, h, _, _ => by cases h
  | .val _ :: rs, .own _ _ :: as, _, _, _, h, _, _ => by cases h
  | .val _ :: rs, .val _ :: as, ρ, ρ', 0, h, n, e => by simp at e
  | .val _ :: rs, .val _ :: as, ρ, ρ', i + 1, h, n, e => by simpa using backA_in (rs := rs) (as := as) (i := i) h n (by simpa using e)
  | .slot k :: _, [], _, _, _, h, _, _ => by cases h
  | .slot k :: _, .un :: _, _, _, _, h, _, _ => by cases h
  | .slot k :: _, .val _ :: _, _, _, _, h, _, _ => by cases h
  | .slot k :: rs, .own io1 o :: as, ρ, ρ', i, h, n, e => by
    have h : (match ρ[k]? with | some (.own io _) => backA rs as (ρ.set k (.own io o)) | _ => none) = some ρ' := h
    rw [apart_slot, Bool.and_eq_true, Bool.not_eq_true'] at n
    split at h
    · rename_i io o0 hk
      cases i with
      | zero =>
        simp at e
        subst e
        refine ⟨io, io1, o0, o, rfl, hk, ?_⟩
        rw [backA_out h n.1, List.getElem?_set_self (List.getElem?_eq_some_iff.mp hk).1]
      | succ i =>
        have e : rs[i]? = some (.slot j) := by simpa using e
        have nkj : k ≠ j := fun z => by
          subst z
          have := n.1
          rw [List.any_eq_false] at this
          exact this _ (List.mem_of_getElem? e) (by simp [isSlot])
        obtain ⟨io2, io3, o2, o3, h1, h2, h3⟩ := backA_in (i := i) h n.2 e
        rw [List.getElem?_set_ne nkj] at h2
        exact ⟨io2, io3, o2, o3, by simpa using h1, h2, h3⟩
    · cases h
section
variable {G : Gr} {O : AS} {σ : L2.St} {H H' : Hp} {ρ ρ' : Env}
theorem args_get {vs : List V} {rs : List Rv} (r : RvA G O σ H vs rs) : ∀ {as : List Slot} {i : Nat} {io : Bool} {o : OD}, argsOf rs ρ = some as → as[i]? = some (.own io o) → ∃ k a io', rs[i]? = some (.slot k) ∧ vs[i]? = some (.ref a) ∧ ρ[k]? = some (.own io' o) ∧ σ[k]? = some (some (.ref a)) ∨ ¬ ER G O σ H ρ := by
  induction r with
  | nil => intro as i io o e h; cases e; simp at h
  | @cons v vs r rs h _ ih =>
    intro as i io o e hi
    unfold argsOf at e
    cases q1 : argOf r ρ with
    | none => rw [q1] at e; cases e
    | some s =>
      cases q2 : argsOf rs ρ with
      | none => rw [q1, q2] at e; cases e
      | some as2 =>
        rw [q1, q2] at e
        cases e
        cases i with
        | succ i =>
          obtain ⟨k, a, io', z⟩ := ih q2 (by simpa using hi)
          exact ⟨k, a, io', by simpa using z⟩
        | zero =>
          simp at hi
          subst hi
          cases r with
          | val d => cases q1
          | slot k =>
            unfold argOf at q1
            simp only at q1
            cases q3 : ρ[k]? with
            | none => rw [q3] at q1; cases q1
            | some s =>
              rw [q3] at q1
              cases s with
              | un => cases q1
              | val _ => cases q1
              | own io' o' =>
                cases q1
                have h : σ[k]? = some (some v) := h
                by_cases E : ER G O σ H ρ
                · obtain ⟨a, k1, _⟩ := E.slot k _ q3
                  rw [h] at k1
                  cases k1
                  exact ⟨k, a, io', .inl ⟨rfl, rfl, q3, h⟩⟩
                · exact ⟨k, 0, io', .inr E⟩
theorem args_own (E : ER G O σ H ρ) {vs : List V} {rs : List Rv} (r : RvA G O σ H vs rs) {as : List Slot} {i : Nat} {io : Bool} {o : OD} (e : argsOf rs ρ = some as) (hi : as[i]? = some (.own io o)) : ∃ k a io', rs[i]? = some (.slot k) ∧ vs[i]? = some (.ref a) ∧ ρ[k]? = some (.own io' o) ∧ σ[k]? = some (some (.ref a)) := by
  obtain ⟨k, a, io', z⟩ := args_get r e hi
  rcases z with z | z
  · exact ⟨k, a, io', z⟩
  · exact absurd E z
theorem args_ar (E : ER G O σ H ρ) {vs : List V} {rs : List Rv} (r : RvA G O σ H vs rs) : ∀ {as : List Slot}, argsOf rs ρ = some as → AR (Gb G.K G.cv G.T) O H vs as := by
  induction r with
  | nil => intro as e; cases e; exact .nil
  | @cons v vs r rs h _ ih =>
    intro as e
    unfold argsOf at e
    cases q1 : argOf r ρ with
    | none => rw [q1] at e; cases e
    | some s =>
      cases q2 : argsOf rs ρ with
      | none => rw [q1, q2] at e; cases e
      | some as2 =>
        rw [q1, q2] at e
        cases e
        cases r with
        | val d => cases q1; exact .val h (ih q2)
        | slot k =>
          unfold argOf at q1
          simp only at q1
          cases q3 : ρ[k]? with
          | none => rw [q3] at q1; cases q1
          | some s =>
            rw [q3] at q1
            cases s with
            | un => cases q1
            | val _ => cases q1
            | own io' o' =>
              cases q1
              have h : σ[k]? = some (some v) := h
              obtain ⟨a, k1, k2, k3, _⟩ := E.slot k _ q3
              rw [h] at k1
              cases k1
              exact .own (OR.gr (G := G) rfl rfl k2) k3 (ih q2)
theorem apart_eq : ∀ {rs : List Rv} {i j k : Nat}, apart rs = true → rs[i]? = some (.slot k) → rs[j]? = some (.slot k) → i = j
  | [], i, j, k, _, e, _ => by simp at e
  | .val _ :: rs, 0, _, _, _, e, _ => by simp at e
  | .val _ :: rs, _ + 1, 0, _, _, _, e => by simp at e
  | .val _ :: rs, i + 1, j + 1, k, h, e1, e2 => congrArg (· + 1) (apart_eq (rs := rs) (i := i) (j := j) (k := k) h (by simpa using e1) (by simpa using e2))
  | .slot _ :: rs, 0, 0, _, _, _, _ => rfl
  | .slot m :: rs, 0, j + 1, k, h, e1, e2 => by
    simp at e1
    subst e1
    rw [apart_slot, Bool.and_eq_true, Bool.not_eq_true', List.any_eq_false] at h
    exact absurd (by simp [isSlot]) (h.1 _ (List.mem_of_getElem? (show rs[j]? = some (.slot m) by simpa using e2)))
  | .slot m :: rs, i + 1, 0, k, h, e1, e2 => by
    simp at e2
    subst e2
    rw [apart_slot, Bool.and_eq_true, Bool.not_eq_true', List.any_eq_false] at h
    exact absurd (by simp [isSlot]) (h.1 _ (List.mem_of_getElem? (show rs[i]? = some (.slot m) by simpa using e1)))
  | .slot m :: rs, i + 1, j + 1, k, h, e1, e2 => by
    rw [apart_slot, Bool.and_eq_true] at h
    exact congrArg (· + 1) (apart_eq (rs := rs) (i := i) (j := j) (k := k) h.2 (by simpa using e1) (by simpa using e2))
theorem args_inj (E : ER G O σ H ρ) {vs : List V} {rs : List Rv} (r : RvA G O σ H vs rs) {as : List Slot} (e : argsOf rs ρ = some as) (hp : apart rs = true) : injA vs as := fun i j a io io' o o' h1 h2 h3 h4 => by
  obtain ⟨k, b, io1, a1, a2, a3, a4⟩ := args_own E r e h1
  obtain ⟨k', b', io2, b1, b2, b3, b4⟩ := args_own E r e h2
  rw [h3] at a2
  cases a2
  rw [h4] at b2
  cases b2
  have := E.inj k k' a io1 io2 o o' a3 b3 a4 b4
  subst this
  exact apart_eq hp a1 b1
/-- behind the call: the caller's environment -/
theorem ER.called (E : ER G O σ H ρ) {vs : List V} {rs : List Rv} (r : RvA G O σ H vs rs) {as as' : List Slot} {Ox : AS} (g : Gw O H Ox) (hdx : ∀ a, Ox.av a → H' a ≠ none) (ha : argsOf rs ρ = some as) (hp : apart rs = true) (e : EX (O.only vs as) H H') (ht : LamX.Tabs G.T H') (r' : AR (Gb G.K G.cv G.T) Ox H' vs as') (hb : backA rs as' ρ = some ρ') : ER G Ox σ H' ρ' := by
  have eO : EX Ox H H' := e.mono fun b z => g.wsub b z.1
  have wOf : ∀ {b}, ownAt vs as b → ∃ (k : Nat) (io : Bool) (o : OD), ρ[k]? = some (Slot.own io o) ∧ σ[k]? = some (some (.ref b)) ∧ rs.any (isSlot k) = true := fun {b} ⟨i, io, o, h1, h2⟩ => by
    obtain ⟨k, a, io1, a1, a2, a3, a4⟩ := args_own E r ha h1
    rw [h2] at a2
    cases a2
    exact ⟨k, io1, o, a3, a4, List.any_eq_true.mpr ⟨_, List.mem_of_getElem? a1, by simp [isSlot]⟩⟩
  have any_get : ∀ {j}, rs.any (isSlot j) = true → ∃ i : Nat, rs[i]? = some (Rv.slot j) := fun {j} h => by
    obtain ⟨x, hx, hj⟩ := List.any_eq_true.mp h
    obtain ⟨i, hi⟩ := List.mem_iff_getElem?.mp hx
    cases x with
    | val _ => cases hj
    | slot k =>
      have : k = j := by simpa [isSlot] using hj
      subst this
      exact ⟨i, hi⟩
  have shape : ∀ {j : Nat} {io : Bool} {o : OD}, ρ'[j]? = some (Slot.own io o) → ∃ o0, ρ[j]? = some (Slot.own io o0) := fun {j io o} h => by
    cases q : rs.any (isSlot j) with
    | false => rw [backA_out hb q] at h; exact ⟨o, h⟩
    | true =>
      obtain ⟨i, hi⟩ := any_get q
      obtain ⟨io1, io2, o1, o2, h1, h2, h3⟩ := backA_in hb hp hi
      rw [h] at h3
      cases h3
      exact ⟨o1, h2⟩
  refine ⟨by rw [backA_len hb]; exact E.len, fun a h => g.sub a (E.sub a h), fun a h => g.wsub a (E.wsub a h), E.odom, hdx, ?_, ht, fun j s h => ?_, fun i j a io io' o o' h1 h2 h3 h4 => ?_⟩
  · refine ⟨fun b o h n t => ?_, fun b xs h => e.tups b xs (E.ext.tups b xs h), fun b o u h => e.frzs b o u (E.ext.frzs b o u h), fun b h => e.dom b (E.ext.dom b h)⟩
    refine e.keep b o (E.ext.keep b o h n t) (fun z => ?_) t
    obtain ⟨k, io, o1, k1, k2, _⟩ := wOf z.2
    obtain ⟨a, j1, _, _, j4⟩ := E.slot k _ k1
    rw [k2] at j1
    cases j1
    cases io with
    | true => rw [if_pos rfl] at j4; exact n j4.2
    | false => rw [if_neg (by decide)] at j4; rw [h] at j4; cases j4
  · cases q : rs.any (isSlot j) with
    | false =>
      rw [backA_out hb q] at h
      have sl := E.slot j s h
      cases s with
      | un => trivial
      | val d => obtain ⟨v, h1, h2⟩ := sl; exact ⟨v, h1, (h2.gw g).ex eO⟩
      | own io o =>
        obtain ⟨a, h1, h2, h3, h4⟩ := sl
        refine ⟨a, h1, (h2.gw g).ex eO (fun u hu ht => e.keep a u hu (fun z => ?_) ht), g.wsub a h3, h4⟩
        obtain ⟨k, io2, o2, k1, k2, k3⟩ := wOf z.2
        have := E.inj j k a io io2 o o2 h k1 h1 k2
        subst this
        rw [q] at k3
        cases k3
    | true =>
      obtain ⟨i, hi⟩ := any_get q
      obtain ⟨io1, io2, o1, o2, h1, h2, h3⟩ := backA_in hb hp hi
      rw [h] at h3
      cases h3
      obtain ⟨a, j1, j2, j3, j4⟩ := E.slot j _ h2
      rcases r'.get h1 with ⟨v, d, z, _⟩ | ⟨b, o3, z, l2, l3, l4⟩
      · cases z
      · cases z
        obtain ⟨v', hv', rv⟩ := r.get hi
        have rv : σ[j]? = some (some v') := rv
        rw [l2] at hv'
        cases hv'
        rw [rv] at j1
        cases j1
        exact ⟨_, rv, OR.gr (G := Gb G.K G.cv G.T) rfl rfl l3, g.wsub _ j3, j4⟩
  · obtain ⟨o1, h1⟩ := shape h1
    obtain ⟨o2, h2⟩ := shape h2
    exact E.inj i j a io io' o1 o2 h1 h2 h3 h4
end
end EL

/-! E12: calls of defs, what is new, lists that a name owns, raise. -/
namespace EL
open PySem PySem.Spec PyProof.Rows L2

inductive NV where
  | val (d : D) | new (o : OD)
def ansN (G : Gr) (O : AS) (W : WX) (σ : L2.St) (H : Hp) (r : Out NV) (Q : VK) : Prop := match r with
  | .ok (.val d) ρ' => ∀ v H', ER G O σ H' ρ' → EX O H H' → Rp G.K G.cv O H' v d → Q v H'
  | .ok (.new o) ρ' => ∀ a H', ER G (O.hide a) σ H' ρ' → EX O H H' → H a = none → OR G (O.hide a) H' a o → Q (.ref a) H'
  | .err c ρ' => ∀ (dd : DD c) H', ER G O σ H' ρ' → EX O H H' → W (G.cv c) dd.1 σ H'
  | .bad => False
def trN (G : Gr) (W : WX) (f : Env → Out NV) : TE := fun σ H Q => ∃ O ρ, ER G O σ H ρ ∧ ansN G O W σ H (f ρ) Q
abbrev Nv (X : Cx) (G : Gr) (W : WX) (e : Expr) (f : Env → Out NV) : Prop := PE X e (trN G W f)
section
variable {X : Cx} {G : Gr} {W : WX} {O : AS} {σ : L2.St} {H H1 : Hp} {ρ : Env}
theorem ansN_ex {r : Out NV} {Q : VK} (e : EX O H H1) (a : ansN G O W σ H r Q) : ansN G O W σ H1 r Q := by
  cases r with
  | ok n ρ' =>
    cases n with
    | val d => exact fun v H2 E2 e2 r2 => a v H2 E2 (e.trans e2) r2
    | new o => exact fun p H2 E2 e2 hp r2 => a p H2 E2 (e.trans e2) (e.back hp) r2
  | err c ρ' => exact fun dd H2 E2 e2 => a dd H2 E2 (e.trans e2)
  | bad => exact a
theorem OR.rp {a : Addr} {o : OD} {d : D} (h : OR G (O.hide a) H a o) (ho : ownD o = some d) (n : ¬ O.av a) : Rp G.K G.cv O H (.ref a) d := by
  cases o with
  | lst xs => cases ho; obtain ⟨us, h1, h2⟩ := h; exact .lst (.inl ⟨.inl h1, n⟩) (h2.less (O' := O) fun _ z => Or.inl z)
  | ins c fs => cases ho; obtain ⟨C, dx, us, c1, h1, h2⟩ := h; exact .ins c1 h1 n (h2.less (O' := O) fun _ z => Or.inl z)
  | dk _ => cases ho
  | dt _ => cases ho
/-- something new, as data -/
def eNew (f : Env → Out NV) : Env → Out Rv := fun ρ => (f ρ).bind fun n ρ1 => match n with
  | .val d => .ok (.val d) ρ1
  | .new o => Out.of ((ownD o).map Rv.val) ρ1
theorem ev_new {e : Expr} {f : Env → Out NV} (h : Nv X G W e f) : Ev X G W e (eNew f) :=
  PEw_ h fun σ H Q ⟨O, ρ, E, a⟩ => ⟨O, ρ, E, by
    unfold eNew at a
    cases q : f ρ with
    | err c ρ1 => rw [q] at a; exact a
    | bad => rw [q] at a; exact a
    | ok n ρ1 =>
      rw [q, Out.bind_ok] at a
      cases n with
      | val d => exact fun v H' E' e' r' => a v H' E' e' r'
      | new o =>
        intro p H' E' e' hp r'
        obtain ⟨z, hz, q2⟩ := ans_of a
        cases h1 : ownD o with
        | none => rw [h1] at hz; cases hz
        | some d =>
          rw [h1] at hz; cases hz
          exact ans_ok (R1 := RvR) (a := Rv.val d) q2 (E'.unhide E.sub) e' (r'.rp h1 fun z => E.dom p z hp)⟩
def fNew (f : Env → Out NV) : Env → Out (List D) := fun ρ => (f ρ).bind fun n ρ1 => match n with
  | .new (.lst ds) => .ok ds ρ1
  | _ => .bad
theorem fv_new {e : Expr} {f : Env → Out NV} (h : Nv X G W e f) : Fv X G W e (fNew f) :=
  PEw_ h fun σ H Q ⟨O, ρ, E, a⟩ => ⟨O, ρ, E, by
    unfold fNew at a
    cases q : f ρ with
    | err c ρ1 => rw [q] at a; exact a
    | bad => rw [q] at a; exact a
    | ok n ρ1 =>
      rw [q, Out.bind_ok] at a
      cases n with
      | val d => exact a.elim
      | new o =>
        cases o with
        | lst ds =>
          intro p H' E' e' hp r'
          obtain ⟨us, h1, h2⟩ := r'
          exact a _ H' p us E' e' ⟨rfl, hp, h1, h2⟩
        | _ => exact a.elim⟩
def nEv (f : Env → Out Rv) : Env → Out NV := fun ρ => (f ρ).bind fun r ρ1 => Out.of (r.store.map NV.val) ρ1
theorem nv_ev {e : Expr} {f : Env → Out Rv} (h : Ev X G W e f) : Nv X G W e (nEv f) :=
  PEw_ h fun σ H Q ⟨O, ρ, E, a⟩ => ⟨O, ρ, E, by
    unfold nEv at a
    cases q : f ρ with
    | err c ρ1 => rw [q] at a; exact a
    | bad => rw [q] at a; exact a
    | ok r ρ1 =>
      rw [q, Out.bind_ok] at a
      cases r with
      | slot k => exact a.elim
      | val d => exact a⟩
def nFv (f : Env → Out (List D)) : Env → Out NV := fun ρ => (f ρ).bind fun ds ρ1 => .ok (.new (.lst ds)) ρ1
theorem nv_fv {e : Expr} {f : Env → Out (List D)} (h : Fv X G W e f) : Nv X G W e (nFv f) :=
  PEw_ h fun σ H Q ⟨O, ρ, E, a⟩ => ⟨O, ρ, E, by
    unfold nFv at a
    cases q : f ρ with
    | err c ρ1 => rw [q] at a; exact a
    | bad => rw [q] at a; exact a
    | ok ds ρ1 =>
      rw [q, Out.bind_ok] at a
      intro v H' p us E' e' n
      rw [n.v]
      exact a p H' E' e' n.old ⟨us, n.at_, n.items⟩⟩

/-! ### calls -/
def callN (m : List Slot → FR) (rs : List Rv) (ρ : Env) : Out NV := match argsOf rs ρ with
  | none => .bad
  | some as => if apart rs = true then match m as with
      | .ok d as' => match backA rs as' ρ with
        | some ρ' => .ok (.val d) ρ'
        | none => .bad
      | .new o as' => match backA rs as' ρ with
        | some ρ' => .ok (.new o) ρ'
        | none => .bad
      | .err c as' => match backA rs as' ρ with
        | some ρ' => .err c ρ'
        | none => .bad
      | .bad => .bad
    else .bad
def nCall (m : List Slot → FR) (fr : Env → Out (List Rv)) : Env → Out NV := fun ρ => (fr ρ).bind (callN m)
/-- what is known of a module's def: how it is named, what it promises -/
structure FK (P : Program) (w : World) (K : PySem.W.Frag) (mg : Str → Option Value) (base : Heap) (cv : String → Value) (T : List (Addr × Str)) (x : Str) (n : Nat) (m : List Slot → FR) : Prop where
  ex : ∃ (f : Addr) (fd : FuncData) (ps : List Str), mg x = some (.ref f) ∧ PySem.W.keepIn K (.ref f) = true ∧ Binds K fd ps [] ∧ FnOk P w K mg base (L2N.CX P w) n f fd ps (spG K cv T m)
theorem FK.mono {P : Program} {w : World} {K : PySem.W.Frag} {mg : Str → Option Value} {base : Heap} {cv : String → Value} {T : List (Addr × Str)} {x : Str} {n n' : Nat} {m : List Slot → FR} (F : FK P w K mg base cv T x n m) (h : n ≤ n') : FK P w K mg base cv T x n' m :=
  ⟨let ⟨f, fd, ps, h1, h2, h3, h4⟩ := F.ex; ⟨f, fd, ps, h1, h2, h3, h4.mono h⟩⟩
theorem takes0N {X : Cx} : L2N.Takes X (fun _ _ _ _ => False) := fun _ _ x => by
  obtain ⟨_, _, _, _, _, _, _, _, _, _, _, _, _, _, _, _, z⟩ := x
  exact z.elim
theorem call_in {m : List Slot → FR} {rs : List Rv} {vs : List V} {Q : VK} (E : ER G O σ H ρ) (r : RvA G O σ H vs rs) (a : ansN G O W σ H (callN m rs ρ) Q) : spG G.K G.cv G.T m vs H Q (L2.WE W σ) := by
  unfold callN at a
  cases q1 : argsOf rs ρ with
  | none => rw [q1] at a; exact a.elim
  | some as =>
    rw [q1] at a
    by_cases hp : apart rs = true
    case neg => simp only [if_neg hp] at a; exact a.elim
    simp only [if_pos hp] at a
    have rA := args_ar E r q1
    refine ⟨O, as, E.dom, E.tabs, rA, args_inj E r q1 hp, ?_⟩
    have eO : ∀ {H'}, EX (O.only vs as) H H' → EX O H H' := fun e => e.mono fun b z => z.1
    cases q2 : m as with
    | bad => rw [q2] at a; exact a.elim
    | ok d as' =>
      rw [q2] at a
      simp only at a
      cases q3 : backA rs as' ρ with
      | none => rw [q3] at a; exact a.elim
      | some ρ' =>
        rw [q3] at a
        exact fun v H' e t r' rv => a v H' (E.called r (Gw.refl _ _) (fun b z => e.dom b (E.dom b z)) q1 hp e t r' q3) (eO e) rv
    | err c as' =>
      rw [q2] at a
      simp only at a
      cases q3 : backA rs as' ρ with
      | none => rw [q3] at a; exact a.elim
      | some ρ' =>
        rw [q3] at a
        exact fun dd H' e t r' => a dd H' (E.called r (Gw.refl _ _) (fun b z => e.dom b (E.dom b z)) q1 hp e t r' q3) (eO e)
    | new o as' =>
      rw [q2] at a
      simp only at a
      cases q3 : backA rs as' ρ with
      | none => rw [q3] at a; exact a.elim
      | some ρ' =>
        rw [q3] at a
        intro p H' e t r' hp2 ro
        refine a p H' (E.called r (Gw.hide hp2) (fun b z => ?_) q1 hp e t r' q3) (eO e) hp2 (OR.gr (G := Gb G.K G.cv G.T) rfl rfl ro)
        rcases z with z | z
        · exact e.dom b (E.dom b z)
        · rw [z]
          cases o with
          | lst xs => obtain ⟨us, h1, _⟩ := ro; rw [h1]; simp
          | dk xs => obtain ⟨us, h1, _⟩ := ro; rw [h1]; simp
          | dt xs => obtain ⟨us, h1, _⟩ := ro; rw [h1]; simp
          | ins c fs => obtain ⟨C, dx, us, _, h1, _⟩ := ro; rw [h1]; simp
theorem callA_in {m : List Slot → FR} {fr : Env → Out (List Rv)} {Q : VK} (E : ER G O σ H ρ) (a : ansN G O W σ H (nCall m fr ρ) Q) : tr RvA G W fr σ H fun vs H1 => spG G.K G.cv G.T m vs H1 Q (L2.WE W σ) := by
  refine ⟨O, ρ, E, ?_⟩
  unfold nCall at a
  cases q : fr ρ with
  | err c ρ1 => rw [q] at a; exact a
  | bad => rw [q] at a; exact a
  | ok rs ρ1 =>
    rw [q, Out.bind_ok] at a
    exact fun vs H1 E1 e1 r1 => call_in E1 r1 (ansN_ex e1 a)
theorem nv_call {x : Str} {p pos : Pos} {e : Expr} {es : List Expr} {n k : Nat} {m : List Slot → FR} {fr : Env → Out (List Rv)} (F : FK X.prog X.w X.K X.mg X.base G.cv G.T x n m) (hn : n ≤ k) (hr : Room k X.A) (hg : Gl X x) (tk : L2N.Takes X W) (ha : Av X G W (e :: es) fr) (hK : X.K = G.K := by rfl)
    (hdb : (x == ("__debug__" : Str)) = false := by decide) (he : starEach (e :: es) X.env = (false, eval e X.env) :: starEach es X.env := by rfl) (hpl : (backTo pos (starEach es X.env)).any (·.1) = false := by rfl) : Nv X G W (.Call (.Name x p) (e :: es) [] pos) (nCall m fr) := by
  obtain ⟨f, fd, ps, h1, h2, h3, h4⟩ := F.ex
  refine PEw_ (pe_callS h4 (hr.mono hn) hg h1 h2 h3 (fun σ => L2N.passAt tk σ) ha hdb he hpl) fun σ H Q ⟨O, ρ, E, a⟩ => ?_
  have h := callA_in E a
  rw [← hK] at h
  exact h
theorem nv_call0 {x : Str} {p pos : Pos} {n k : Nat} {m : List Slot → FR} (F : FK X.prog X.w X.K X.mg X.base G.cv G.T x n m) (hn : n ≤ k) (hr : Room k X.A) (hg : Gl X x) (hne : ∀ c as, m [] ≠ .err c as) (hK : X.K = G.K := by rfl)
    (hdb : (x == ("__debug__" : Str)) = false := by decide) : Nv X G W (.Call (.Name x p) [] [] pos) (nCall m aNil) := by
  obtain ⟨f, fd, ps, h1, h2, h3, h4⟩ := F.ex
  refine PEw_ (pe_call0 (dvs := []) (ds := []) (E := fun _ _ _ => False) h4 (hr.mono hn) hg h1 h2 h3 .nil (L2N.passes_call takes0N fun _ _ _ _ z => z) hdb) fun σ H Q ⟨O, ρ, E, a⟩ => ?_
  have h := callA_in E a
  rw [← hK] at h
  obtain ⟨O1, ρ1, E1, a1⟩ := h
  have h := a1 [] H E1 (EX.refl _ _) .nil
  obtain ⟨O2, as, k1, k2, k3, k4, k5⟩ := h
  cases k3
  refine ⟨O2, [], k1, k2, .nil, k4, ?_⟩
  cases q : m [] with
  | err c as => exact absurd q (hne c as)
  | ok d as => rw [q] at k5; exact k5
  | new o as => rw [q] at k5; exact k5
  | bad => rw [q] at k5; exact k5
end

/-! ### what a name owns is written -/
def plainHO (u : HO) : Prop := (∀ xs, u ≠ .tup xs) ∧ (∀ b v, u ≠ .frz b v) ∧ (∀ ps, u ≠ .tbl ps) ∧ ∀ φ, u ≠ .ext φ
theorem plain_lst (us : List V) : plainHO (.lst us) := ⟨fun _ z => (by cases z), fun _ _ z => (by cases z), fun _ z => (by cases z), fun _ z => by cases z⟩
theorem plain_ins (C d : Addr) (fs : List (Str × V)) : plainHO (.ins C d fs) := ⟨fun _ z => (by cases z), fun _ _ z => (by cases z), fun _ z => (by cases z), fun _ z => by cases z⟩
theorem plain_dK (ks : List (Key × V)) : plainHO (.dK ks) := ⟨fun _ z => (by cases z), fun _ _ z => (by cases z), fun _ z => (by cases z), fun _ z => by cases z⟩
theorem plain_dT (ks : List (List Key × V)) : plainHO (.dT ks) := ⟨fun _ z => (by cases z), fun _ _ z => (by cases z), fun _ z => (by cases z), fun _ z => by cases z⟩
section
variable {X : Cx} {G : Gr} {W : WX} {O : AS} {σ : L2.St} {H H1 : Hp} {ρ : Env}
theorem ER.write (E : ER G O σ H ρ) {k : Nat} {io : Bool} {o o' : OD} {a : Addr} {u u' : HO} (hk : ρ[k]? = some (.own io o)) (hs : σ[k]? = some (some (.ref a))) (hat : H a = some u) (hu : plainHO u) (r : EX O H (upd H a u') → OR G O (upd H a u') a o') :
    ER G O σ (upd H a u') (ρ.set k (.own io o')) ∧ EX O H (upd H a u') := by
  obtain ⟨b, k1, _, k3, k4⟩ := E.slot k _ hk
  rw [hs] at k1
  cases k1
  have e : EX O H (upd H a u') := EX.own k3 hat ⟨hu.1, hu.2.1⟩
  have r := r e
  have hl : k < ρ.length := (List.getElem?_eq_some_iff.mp hk).1
  have get : ∀ {j : Nat} {s : Slot}, (ρ.set k (.own io o'))[j]? = some s → (j = k ∧ s = .own io o') ∨ (j ≠ k ∧ ρ[j]? = some s) := fun {j s} h => by
    by_cases z : k = j
    · subst z
      rw [List.getElem?_set_self hl] at h
      exact .inl ⟨rfl, (Option.some.inj h).symm⟩
    · rw [List.getElem?_set_ne z] at h
      exact .inr ⟨fun y => z y.symm, h⟩
  refine ⟨⟨by rw [List.length_set]; exact E.len, E.sub, E.wsub, E.odom, fun b h => e.dom b (E.dom b h), ?_, fun q hq => ?_, fun j s h => ?_, fun i j b io1 io2 o1 o2 h1 h2 h3 h4 => ?_⟩, e⟩
  · cases io with
    | true =>
      rw [if_pos rfl] at k4
      exact E.ext.trans (EX.own k4.2 hat ⟨hu.1, hu.2.1⟩)
    | false =>
      rw [if_neg (by decide)] at k4
      refine ⟨fun b o h n t => ?_, fun b xs h => e.tups b xs (E.ext.tups b xs h), fun b o u h => e.frzs b o u (E.ext.frzs b o u h), fun b h => e.dom b (E.ext.dom b h)⟩
      rw [upd_ne (fun z => by rw [z, k4] at h; cases h)]
      exact E.ext.keep b o h n t
  · obtain ⟨ps, h1, h2, h3⟩ := E.tabs q hq
    refine ⟨ps, ?_, h2, fun pos cv' hc => ?_⟩
    · rw [upd_ne (fun z => by rw [z, hat] at h1; exact hu.2.2.1 ps (Option.some.inj h1))]; exact h1
    · obtain ⟨c, e1, e2⟩ := h3 pos cv' hc
      refine ⟨c, e1, ?_⟩
      rw [upd_ne (fun z => by rw [z, hat] at e2; unfold LamX.CodeO at e2; exact hu.2.2.2 _ (Option.some.inj e2))]
      exact e2
  · rcases get h with ⟨rfl, rfl⟩ | ⟨hj, h⟩
    · exact ⟨a, hs, r, k3, k4⟩
    · have q := E.slot j s h
      cases s with
      | un => trivial
      | val d => obtain ⟨v, h1, h2⟩ := q; exact ⟨v, h1, h2.ex e⟩
      | own io1 o1 =>
        obtain ⟨b, h1, h2, h3, h4⟩ := q
        have hb : b ≠ a := fun z => by
          subst z
          exact hj (E.inj j k b io1 io o1 o h hk h1 hs)
        exact ⟨b, h1, h2.ex e (fun u hu _ => by rw [upd_ne hb]; exact hu), h3, h4⟩
  · have own : ∀ {j : Nat} {io1 : Bool} {o1 : OD}, (ρ.set k (.own io o'))[j]? = some (.own io1 o1) → ∃ io2 o2, ρ[j]? = some (Slot.own io2 o2) := fun {j io1 o1} h => by
      rcases get h with ⟨rfl, _⟩ | ⟨_, h⟩
      · exact ⟨io, o, hk⟩
      · exact ⟨io1, o1, h⟩
    obtain ⟨_, _, g1⟩ := own h1
    obtain ⟨_, _, g2⟩ := own h2
    exact E.inj i j b _ _ _ _ g1 g2 h3 h4
/-- a list that slot k owns -/
def lstAt (k : Nat) (ρ : Env) : Option (Bool × List D) := match ρ[k]? with
  | some (.own io (.lst xs)) => some (io, xs)
  | _ => none
theorem lstAt_some {k : Nat} {io : Bool} {xs : List D} (h : lstAt k ρ = some (io, xs)) : ρ[k]? = some (.own io (.lst xs)) := by
  unfold lstAt at h
  split at h
  · rename_i h1; cases h; exact h1
  · cases h
/-- a list's method: the items, the arguments; the answer, the items then -/
def mAnsw (op : List D → List D → Option (D × List D)) (k : Nat) (rs : List Rv) (ρ : Env) : Out Rv := match storeAll rs, lstAt k ρ with
  | some ds, some (io, xs) => match op xs ds with
    | some (d, ys) => .ok (.val d) (ρ.set k (.own io (.lst ys)))
    | none => .bad
  | _, _ => .bad
def eMeth (op : List D → List D → Option (D × List D)) (k : Nat) (fr : Env → Out (List Rv)) : Env → Out Rv := fun ρ => match lstAt k ρ with
  | some _ => (fr ρ).bind (mAnsw op k)
  | none => .bad
def MeG (G : Gr) (r : V → List V → Hp → VK → Prop) (op : List D → List D → Option (D × List D)) : Prop := ∀ (O : AS) (H : Hp) (a : Addr) (us : List V) (xs : List D) (vs : List V) (ds : List D) (d : D) (ys : List D) (Q : VK), H a = some (.lst us) → RpA G.K G.cv O H us xs → RpA G.K G.cv O H vs ds → op xs ds = some (d, ys) →
  (∀ v us', RpA G.K G.cv O H us' ys → (EX O H (upd H a (.lst us')) → Rp G.K G.cv O (upd H a (.lst us')) v d) → Q v (upd H a (.lst us'))) → r (.ref a) vs H Q
theorem meth_in {r : V → List V → Hp → VK → Prop} {op : List D → List D → Option (D × List D)} {k : Nat} {fr : Env → Out (List Rv)} {Q : VK} (hg : MeG G r op) (E : ER G O σ H ρ) (a : ans RvR G O W σ H (eMeth op k fr ρ) Q) :
    ∃ x us, σ[k]? = some (some (.ref x)) ∧ H x = some (.lst us) ∧ tr RvA G W fr σ H fun vs H1 => r (.ref x) vs H1 Q := by
  unfold eMeth at a
  cases q0 : lstAt k ρ with
  | none => rw [q0] at a; exact a.elim
  | some p =>
    rw [q0] at a
    obtain ⟨io0, xs0⟩ := p
    obtain ⟨x, x1, ⟨us0, x2, _⟩, _, _⟩ := E.slot k _ (lstAt_some q0)
    refine ⟨x, us0, x1, x2, O, ρ, E, ans_in (g := mAnsw op k) a fun rs ρ1 vs H1 E1 e1 r1 a1 => ?_⟩
    unfold mAnsw at a1
    cases q1 : storeAll rs with
    | none => rw [q1] at a1; exact a1.elim
    | some ds =>
      cases q2 : lstAt k ρ1 with
      | none => rw [q1, q2] at a1; exact a1.elim
      | some p =>
        obtain ⟨io, xs⟩ := p
        rw [q1, q2] at a1
        simp only at a1
        cases q3 : op xs ds with
        | none => rw [q3] at a1; exact a1.elim
        | some z =>
          obtain ⟨d, ys⟩ := z
          rw [q3] at a1
          have hk := lstAt_some q2
          obtain ⟨b, b1, ⟨us, b2, b3⟩, _, _⟩ := E1.slot k _ hk
          rw [x1] at b1
          cases b1
          refine hg O H1 x us xs vs ds d ys Q b2 b3 (r1.all q1) q3 fun v us' h1 h2 => ?_
          obtain ⟨E2, e2⟩ := E1.write hk x1 b2 (plain_lst us) (u' := .lst us') (o' := .lst ys) fun e => ⟨us', upd_same, h1.ex e⟩
          exact ans_ok (R1 := RvR) (a := Rv.val d) a1 E2 e2 (h2 e2)
theorem ev_meth {x name : Str} {e : Expr} {es : List Expr} {id : String} {k : Nat} {r : V → List V → Hp → VK → Prop} {op : List D → List D → Option (D × List D)} {fr : Env → Out (List Rv)} {p apos cpos : Pos} (slot : PySem.Slot "list" name id) (hty : typeOf (.builtin id) = pure (.type "method_descriptor")) (hm : MtR X id r) (hg : MeG G r op)
    (hN : X.N[k]? = some x) (hv : Vis X.env.scope x) (ha : Av X G W (e :: es) fr) (hd : (x == ("__debug__" : Str)) = false := by decide) (hcd : (x == ("__classdict__" : Str)) = false := by decide)
    (hbase : attributeBase (.Name x p) name X.env (eval (.Name x p) X.env) = eval (.Name x p) X.env := by rfl)
    (hfew : ((backTo cpos (starEach (e :: es) X.env)).all (fun x => !x.1) && (backToKw cpos (keywordEach [] X.env)).all (fun x => x.1.isSome) && decide ((e :: es).length + ([] : List Keyword).length + (if ([] : List Keyword).isEmpty then 0 else 1) < 30)) = true := by rfl)
    (hline : (apos.endLine == cpos.line) = true := by rfl) (hs : starEach (e :: es) X.env = (false, eval e X.env) :: starEach es X.env := by rfl) (hplain : (backTo cpos (starEach es X.env)).any (·.1) = false := by rfl) :
    Ev X G W (.Call (.Attribute (.Name x p) name apos) (e :: es) [] cpos) (eMeth op k fr) :=
  PEw_ (pe_bm PySem.F.plainAttrs_list slot hty hm (pe_var hN hv hd hcd) ha hbase hfew hline hs hplain) fun σ H Q ⟨O, ρ, E, a⟩ => by
    obtain ⟨x, us, h1, h2, h3⟩ := meth_in hg E a
    exact ⟨.ref x, h1, Or.inl ⟨rfl, us, SqL.of h2⟩, h3⟩
theorem rpa1 {vs : List V} {d : D} (h : RpA G.K G.cv O H vs [d]) : ∃ v, vs = [v] ∧ Rp G.K G.cv O H v d := by
  cases h with
  | cons h t => cases t; exact ⟨_, rfl, h⟩
def appO (xs ds : List D) : Option (D × List D) := match ds with
  | [d] => if xs.length < 16777216 then some (.non, xs ++ [d]) else none
  | _ => none
theorem me_append : MeG G rAppend appO := fun O H a us xs vs ds d ys Q h1 h2 h3 h4 q => by
  unfold appO at h4
  split at h4
  · split at h4
    · rename_i hz
      cases h4
      obtain ⟨v, rfl, hv⟩ := rpa1 h3
      exact ⟨a, us, v, rfl, rfl, h1, by rw [h2.len, sizeLine_eq]; exact hz, q .non _ (h2.append (.cons hv .nil)) fun _ => .non⟩
    · cases h4
  · cases h4
def popO (xs ds : List D) : Option (D × List D) := match ds with
  | [.int i] => if xs.length ≤ 16777216 then (ixN xs.length i).bind fun j => (xs[j]?).map fun d => (d, xs.eraseIdx j) else none
  | _ => none
theorem me_pop : MeG G rPopAt popO := fun O H a us xs vs ds d ys Q h1 h2 h3 h4 q => by
  unfold popO at h4
  split at h4
  · rename_i i
    split at h4
    · rename_i hz
      obtain ⟨v, rfl, hv⟩ := rpa1 h3
      cases hv
      cases q1 : ixN xs.length i with
      | none => rw [q1] at h4; cases h4
      | some j =>
        rw [q1, Option.bind_some] at h4
        cases q2 : xs[j]? with
        | none => rw [q2] at h4; cases h4
        | some y =>
          rw [q2] at h4
          cases h4
          obtain ⟨k1, k2, k3, k4⟩ := ixN_seq q1
          obtain ⟨v, hv, rv⟩ := h2.get q2
          have hl := h2.len
          refine ⟨a, us, i, j, v, rfl, rfl, h1, by omega, by omega, by rw [hl]; exact k1, hv, q v _ (h2.eraseIdx j) fun e => rv.ex e⟩
    · cases h4
  · cases h4
/-- the first place of an int -/
def atFst (k : Int) : List Int → Option Nat
  | [] => none
  | n :: r => if n = k then some 0 else (atFst k r).map (· + 1)
theorem atFst_some {k : Int} : ∀ {ns : List Int} {j : Nat}, atFst k ns = some j → ns[j]? = some k ∧ ∀ m : Nat, m < j → ns[m]? ≠ some k
  | [], j, h => by cases h
  | n :: r, j, h => by
    unfold atFst at h
    split at h
    · rename_i e
      cases h
      exact ⟨by simp [e], fun m hm => absurd hm (Nat.not_lt_zero _)⟩
    · rename_i e
      cases q : atFst k r with
      | none => rw [q] at h; cases h
      | some i =>
        rw [q] at h
        cases h
        obtain ⟨h1, h2⟩ := atFst_some q
        refine ⟨by simpa using h1, fun m hm => ?_⟩
        cases m with
        | zero => simpa using e
        | succ m =>
          have hm : m + 1 < i + 1 := hm
          simpa using h2 m (by omega)
def remO (xs ds : List D) : Option (D × List D) := match ds with
  | [.int k] => (intsOf xs).bind fun ns => (atFst k ns).map fun j => (.non, (ns.eraseIdx j).map D.int)
  | _ => none
theorem rpa_intsV {ns : List Int} : RpA G.K G.cv O H (ns.map V.int) (ns.map D.int) := by
  induction ns with
  | nil => exact .nil
  | cons n ns ih => exact .cons (.int n) ih
theorem me_remove : MeG G rRemI remO := fun O H a us xs vs ds d ys Q h1 h2 h3 h4 q => by
  unfold remO at h4
  split at h4
  · rename_i k
    cases q1 : intsOf xs with
    | none => rw [q1] at h4; cases h4
    | some ns =>
      rw [q1, Option.bind_some] at h4
      cases q2 : atFst k ns with
      | none => rw [q2] at h4; cases h4
      | some j =>
        rw [q2] at h4
        cases h4
        obtain ⟨v, rfl, hv⟩ := rpa1 h3
        cases hv
        rw [intsOf_some q1] at h2
        rw [rpa_ints h2] at h1
        obtain ⟨k1, k2⟩ := atFst_some q2
        exact ⟨a, ns, k, j, rfl, rfl, h1, k1, k2, q .non _ rpa_intsV fun _ => .non⟩
  · cases h4
/-- xs[i] = e, xs a list that slot k owns -/
def putN (k : Nat) (d : D) (r : Rv) (ρ : Env) : Option Env := match r, lstAt k ρ with
  | .val (.int i), some (io, xs) => (ixN xs.length i).map fun j => ρ.set k (.own io (.lst (xs.set j d)))
  | _, _ => none
def sPut (k : Nat) (fe fi : Env → Out Rv) : Env → SO := fun ρ => (fe ρ).so fun r ρ1 => match r, lstAt k ρ1 with
  | .val d, some _ => (fi ρ1).so fun ri ρ2 => SO.of (putN k d ri ρ2)
  | _, _ => .bad
theorem sv_put (k : Nat) {x : Str} {e i : Expr} {fe fi : Env → Out Rv} {p spos pos : Pos} (he : Ev X G W e fe) (hi : Ev X G W i fi) (hN : X.N[k]? = some x) (hv : Vis X.env.scope x) (hd : (x == ("__debug__" : Str)) = false := by decide) (hcd : (x == ("__classdict__" : Str)) = false := by decide)
    (hs : swapsWithSole [.Subscript (.Name x p) i spos] e pos.line X.env = pure false := by rfl) (hw : swappedStores [.Subscript (.Name x p) i spos] e X.env = pure none := by rfl) (h1 : (assignEach [.Subscript (.Name x p) i spos] X.env).map (·.2) = [assign (.Subscript (.Name x p) i spos) X.env] := by rfl)
    (ha : ∀ v, assign (.Subscript (.Name x p) i spos) X.env v = (do
      let ov ← holding [v] (eval (.Name x p) X.env)
      let iv ← holding [v, ov] (eval i X.env)
      standAt spos
      holding [v, ov, iv] (setItem ov iv v)
      release [v, ov, iv] []) := by intro _; rfl) : Sv X G W (.Assign [.Subscript (.Name x p) i spos] e pos) (sPut k fe fi) :=
  PSw_ (ps_asg he (pg_sub (pe_var hN hv hd hcd) hi set_list ha) hs hw h1) fun Dn σ H ⟨O, ρ, E, a⟩ => ⟨O, ρ, E, ansS_in (k := fun (r : Rv) (ρ1 : Env) => match r, lstAt k ρ1 with
      | .val d, some _ => (fi ρ1).so fun ri ρ2 => SO.of (putN k d ri ρ2)
      | _, _ => .bad) a fun r ρ1 v H1 E1 e1 r1 a1 => by
    cases r with
    | slot _ => exact a1.elim
    | val d =>
      cases q0 : lstAt k ρ1 with
      | none => simp only [q0] at a1; exact a1.elim
      | some p0 =>
        obtain ⟨io0, xs0⟩ := p0
        simp only [q0] at a1
        obtain ⟨x, x1, _⟩ := E1.slot k _ (lstAt_some q0)
        refine ⟨.ref x, x1, O, ρ1, E1, ansS_in (k := fun ri ρ2 => SO.of (putN k d ri ρ2)) a1 fun ri ρ2 u H2 E2 e2 r2 a2 => ?_⟩
        cases q : putN k d ri ρ2 with
        | none => rw [q] at a2; exact a2.elim
        | some ρ3 =>
          rw [q] at a2
          unfold putN at q
          split at q
          · rename_i i io xs q2
            cases q3 : ixN xs.length i with
            | none => rw [q3] at q; cases q
            | some j =>
              rw [q3] at q
              cases q
              have r2 : Rp G.K G.cv O H2 u (.int i) := r2
              cases r2
              have hk := lstAt_some q2
              obtain ⟨b, b1, ⟨us, b2, b3⟩, _, _⟩ := E2.slot k _ hk
              rw [x1] at b1
              cases b1
              have rv : Rp G.K G.cv O H2 v d := Rp.ex e2 r1
              obtain ⟨E3, e3⟩ := E2.write hk x1 b2 (plain_lst us) (u' := .lst (us.set j v)) (o' := .lst (xs.set j d)) fun e => ⟨_, upd_same, (b3.set j rv).ex e⟩
              refine ⟨x, us, i, j, rfl, rfl, b2, by rw [b3.len]; exact q3, ?_⟩
              exact a2 O σ _ (Gw.refl _ _) e3 E3
          · cases q⟩
/-- raise X('..') -/
def sRaise (c : String) : Env → SO := fun ρ => .err c ρ
theorem sv_raise {x m : Str} {c : String} {C : Addr} {B newId initId : String} {bmB : List Value} {j : Nat} {p p2 pos pos' : Pos} (tk : L2N.Takes X W) (hcv : G.cv c = .ref C) (F : ExcBaseFacts B newId initId bmB) (q : PySem.W.excIn X.K C bmB newId = true) (gC : X.mg x = some (.ref C)) (kC : PySem.W.keepIn X.K (.ref C) = true) (r : Raises X (.ref C)) (hg : Gl X x)
    (hc : X.calm = true := by rfl) (hdb : (x == ("__debug__" : Str)) = false := by decide) : Sv X G W (.Raise (some (.Call (.Name x p) [.Constant (.str m) j p2] [] pos)) none pos') (sRaise c) :=
  PSw_ (L2N.ps_raise hc tk (L2N.pmk_own F q gC kC r hg hdb)) fun Dn σ H ⟨O, ρ, E, a⟩ => by
    have h := a O σ ⟨none, .inr rfl⟩ H (Gw.refl _ _) (EX.refl _ _) E
    rw [hcv] at h
    exact h
end
end EL

/-! E13: the rules by name; a, b = x, y; str. -/
namespace EL
open PySem PySem.Spec PyProof.Rows L2
theorem units65 {k : Nat} {A : Around} (r : Room k A) : A.units + 65 < cLine := by have := r.un; omega
section
variable {X : Cx} {G : Gr} {W : WX} {a b : Expr} {fa fb : Env → Out Rv} {pos : Pos}

theorem ev_add (ha : Ev X G W a fa) (hb : Ev X G W b fb) (hK : X.K = G.K := by rfl) : Ev X G W (.BinOp a .Add b pos) (eBin addD fa fb) := ev_bin add_ok (by first | exact og_add | (rw [hK]; exact og_add)) ha hb
theorem ev_sub (ha : Ev X G W a fa) (hb : Ev X G W b fb) (hK : X.K = G.K := by rfl) : Ev X G W (.BinOp a .Sub b pos) (eBin subD fa fb) := ev_bin sub_ok (by first | exact og_sub | (rw [hK]; exact og_sub)) ha hb
theorem ev_mul (ha : Ev X G W a fa) (hb : Ev X G W b fb) (hK : X.K = G.K := by rfl) : Ev X G W (.BinOp a .Mult b pos) (eBin mulD fa fb) := ev_bin mul_ok (by first | exact og_mul | (rw [hK]; exact og_mul)) ha hb
theorem ev_fdiv (ha : Ev X G W a fa) (hb : Ev X G W b fb) : Ev X G W (.BinOp a .FloorDiv b pos) (eBin fdivD fa fb) := ev_bin op_fdiv og_fdiv ha hb
theorem ev_mod (ha : Ev X G W a fa) (hb : Ev X G W b fb) : Ev X G W (.BinOp a .Mod b pos) (eBin modD fa fb) := ev_bin op_mod og_mod ha hb
theorem ev_pow (ha : Ev X G W a fa) (hb : Ev X G W b fb) : Ev X G W (.BinOp a .Pow b pos) (eBin powD fa fb) := ev_bin op_pow og_pow ha hb
theorem ev_eq {k : Nat} (hr : Room k X.A) (ha : Ev X G W a fa) (hb : Ev X G W b fb) (hm : behindInMarks .Eq b = false := by rfl) (hK : X.K = G.K := by rfl) : Ev X G W (.Compare a [.Eq] [b] pos) (eBin eqD fa fb) := ev_cmp (op_eqD hr.units) (by first | exact og_eq | (rw [hK]; exact og_eq)) ha hb hm
theorem tv_eq {k : Nat} (hr : Room k X.A) (ha : Ev X G W a fa) (hb : Ev X G W b fb) (hm : behindInMarks .Eq b = false := by rfl) (hK : X.K = G.K := by rfl) : Tv X G W (.Compare a [.Eq] [b] pos) (tBl (eBin eqD fa fb)) := tv_cmp (op_eqD hr.units) (by first | exact og_eq | (rw [hK]; exact og_eq)) ha hb hm
theorem ev_ne {k : Nat} (hr : Room k X.A) (ha : Ev X G W a fa) (hb : Ev X G W b fb) (hm : behindInMarks .NotEq b = false := by rfl) (hK : X.K = G.K := by rfl) : Ev X G W (.Compare a [.NotEq] [b] pos) (eBin neD fa fb) := ev_cmp (op_neD hr.units) (by first | exact og_ne | (rw [hK]; exact og_ne)) ha hb hm
theorem tv_ne {k : Nat} (hr : Room k X.A) (ha : Ev X G W a fa) (hb : Ev X G W b fb) (hm : behindInMarks .NotEq b = false := by rfl) (hK : X.K = G.K := by rfl) : Tv X G W (.Compare a [.NotEq] [b] pos) (tBl (eBin neD fa fb)) := tv_cmp (op_neD hr.units) (by first | exact og_ne | (rw [hK]; exact og_ne)) ha hb hm
theorem ev_in {k : Nat} (hr : Room k X.A) (ha : Ev X G W a fa) (hb : Ev X G W b fb) (hm : behindInMarks .In b = false := by rfl) (hK : X.K = G.K := by rfl) : Ev X G W (.Compare a [.In] [b] pos) (eBin inD fa fb) := ev_cmp (op_inA (units65 hr)) (by first | exact og_in | (rw [hK]; exact og_in)) ha hb hm
theorem tv_in {k : Nat} (hr : Room k X.A) (ha : Ev X G W a fa) (hb : Ev X G W b fb) (hm : behindInMarks .In b = false := by rfl) (hK : X.K = G.K := by rfl) : Tv X G W (.Compare a [.In] [b] pos) (tBl (eBin inD fa fb)) := tv_cmp (op_inA (units65 hr)) (by first | exact og_in | (rw [hK]; exact og_in)) ha hb hm
theorem ev_nin {k : Nat} (hr : Room k X.A) (ha : Ev X G W a fa) (hb : Ev X G W b fb) (hm : behindInMarks .NotIn b = false := by rfl) (hK : X.K = G.K := by rfl) : Ev X G W (.Compare a [.NotIn] [b] pos) (eBin ninD fa fb) := ev_cmp (op_ninA (units65 hr)) (by first | exact og_nin | (rw [hK]; exact og_nin)) ha hb hm
theorem tv_nin {k : Nat} (hr : Room k X.A) (ha : Ev X G W a fa) (hb : Ev X G W b fb) (hm : behindInMarks .NotIn b = false := by rfl) (hK : X.K = G.K := by rfl) : Tv X G W (.Compare a [.NotIn] [b] pos) (tBl (eBin ninD fa fb)) := tv_cmp (op_ninA (units65 hr)) (by first | exact og_nin | (rw [hK]; exact og_nin)) ha hb hm
theorem ev_lt {k : Nat} (hr : Room k X.A) (ha : Ev X G W a fa) (hb : Ev X G W b fb) (hm : behindInMarks .Lt b = false := by rfl) (hK : X.K = G.K := by rfl) : Ev X G W (.Compare a [.Lt] [b] pos) (eBin ltD fa fb) := ev_cmp (lt_ok hr.units0) (by first | exact og_lt | (rw [hK]; exact og_lt)) ha hb hm
theorem tv_lt {k : Nat} (hr : Room k X.A) (ha : Ev X G W a fa) (hb : Ev X G W b fb) (hm : behindInMarks .Lt b = false := by rfl) (hK : X.K = G.K := by rfl) : Tv X G W (.Compare a [.Lt] [b] pos) (tBl (eBin ltD fa fb)) := tv_cmp (lt_ok hr.units0) (by first | exact og_lt | (rw [hK]; exact og_lt)) ha hb hm
theorem ev_le (ha : Ev X G W a fa) (hb : Ev X G W b fb) (hm : behindInMarks .LtE b = false := by rfl) (hK : X.K = G.K := by rfl) : Ev X G W (.Compare a [.LtE] [b] pos) (eBin leD fa fb) := ev_cmp (op_le) (by first | exact og_rB0 | (rw [hK]; exact og_rB0)) ha hb hm
theorem tv_le (ha : Ev X G W a fa) (hb : Ev X G W b fb) (hm : behindInMarks .LtE b = false := by rfl) (hK : X.K = G.K := by rfl) : Tv X G W (.Compare a [.LtE] [b] pos) (tBl (eBin leD fa fb)) := tv_cmp (op_le) (by first | exact og_rB0 | (rw [hK]; exact og_rB0)) ha hb hm
theorem ev_gt (ha : Ev X G W a fa) (hb : Ev X G W b fb) (hm : behindInMarks .Gt b = false := by rfl) (hK : X.K = G.K := by rfl) : Ev X G W (.Compare a [.Gt] [b] pos) (eBin gtD fa fb) := ev_cmp (op_gt) (by first | exact og_rB0 | (rw [hK]; exact og_rB0)) ha hb hm
theorem tv_gt (ha : Ev X G W a fa) (hb : Ev X G W b fb) (hm : behindInMarks .Gt b = false := by rfl) (hK : X.K = G.K := by rfl) : Tv X G W (.Compare a [.Gt] [b] pos) (tBl (eBin gtD fa fb)) := tv_cmp (op_gt) (by first | exact og_rB0 | (rw [hK]; exact og_rB0)) ha hb hm
theorem ev_ge (ha : Ev X G W a fa) (hb : Ev X G W b fb) (hm : behindInMarks .GtE b = false := by rfl) (hK : X.K = G.K := by rfl) : Ev X G W (.Compare a [.GtE] [b] pos) (eBin geD fa fb) := ev_cmp (op_ge) (by first | exact og_rB0 | (rw [hK]; exact og_rB0)) ha hb hm
theorem tv_ge (ha : Ev X G W a fa) (hb : Ev X G W b fb) (hm : behindInMarks .GtE b = false := by rfl) (hK : X.K = G.K := by rfl) : Tv X G W (.Compare a [.GtE] [b] pos) (tBl (eBin geD fa fb)) := tv_cmp (op_ge) (by first | exact og_rB0 | (rw [hK]; exact og_rB0)) ha hb hm
theorem ev_is (ha : Ev X G W a fa) (hb : Ev X G W b fb) (hm : behindInMarks .Is b = false := by rfl) (hK : X.K = G.K := by rfl) : Ev X G W (.Compare a [.Is] [b] pos) (eBin isD fa fb) := ev_cmp (is_ok) (by first | exact og_is | (rw [hK]; exact og_is)) ha hb hm
theorem tv_is (ha : Ev X G W a fa) (hb : Ev X G W b fb) (hm : behindInMarks .Is b = false := by rfl) (hK : X.K = G.K := by rfl) : Tv X G W (.Compare a [.Is] [b] pos) (tBl (eBin isD fa fb)) := tv_cmp (is_ok) (by first | exact og_is | (rw [hK]; exact og_is)) ha hb hm
theorem ev_isn (ha : Ev X G W a fa) (hb : Ev X G W b fb) (hm : behindInMarks .IsNot b = false := by rfl) (hK : X.K = G.K := by rfl) : Ev X G W (.Compare a [.IsNot] [b] pos) (eBin isnD fa fb) := ev_cmp (isn_ok) (by first | exact og_isn | (rw [hK]; exact og_isn)) ha hb hm
theorem tv_isn (ha : Ev X G W a fa) (hb : Ev X G W b fb) (hm : behindInMarks .IsNot b = false := by rfl) (hK : X.K = G.K := by rfl) : Tv X G W (.Compare a [.IsNot] [b] pos) (tBl (eBin isnD fa fb)) := tv_cmp (isn_ok) (by first | exact og_isn | (rw [hK]; exact og_isn)) ha hb hm
theorem ev_lele {c : Expr} {fc : Env → Out Rv} {k : Nat} (hr : Room k X.A) (ha : Ev X G W a fa) (hb : Ev X G W b fb) (hc : Ev X G W c fc) (hm : lastMarks [.LtE, .LtE] [b, c] = false := by with_unfolding_all rfl) (hK : X.K = G.K := by rfl) : Ev X G W (.Compare a [.LtE, .LtE] [b, c] pos) (eChain leD leD fa fb fc) := ev_chain (op_le) (op_le) (by first | exact og_rB0 | (rw [hK]; exact og_lt)) (by first | exact og_rB0 | (rw [hK]; exact og_lt)) ha hb hc hm
theorem ev_ltlt {c : Expr} {fc : Env → Out Rv} {k : Nat} (hr : Room k X.A) (ha : Ev X G W a fa) (hb : Ev X G W b fb) (hc : Ev X G W c fc) (hm : lastMarks [.Lt, .Lt] [b, c] = false := by with_unfolding_all rfl) (hK : X.K = G.K := by rfl) : Ev X G W (.Compare a [.Lt, .Lt] [b, c] pos) (eChain ltD ltD fa fb fc) := ev_chain (lt_ok hr.units0) (lt_ok hr.units0) (by first | exact og_rB0 | (rw [hK]; exact og_lt)) (by first | exact og_rB0 | (rw [hK]; exact og_lt)) ha hb hc hm
theorem ev_lelt {c : Expr} {fc : Env → Out Rv} {k : Nat} (hr : Room k X.A) (ha : Ev X G W a fa) (hb : Ev X G W b fb) (hc : Ev X G W c fc) (hm : lastMarks [.LtE, .Lt] [b, c] = false := by with_unfolding_all rfl) (hK : X.K = G.K := by rfl) : Ev X G W (.Compare a [.LtE, .Lt] [b, c] pos) (eChain leD ltD fa fb fc) := ev_chain (op_le) (lt_ok hr.units0) (by first | exact og_rB0 | (rw [hK]; exact og_lt)) (by first | exact og_rB0 | (rw [hK]; exact og_lt)) ha hb hc hm
theorem ev_ltle {c : Expr} {fc : Env → Out Rv} {k : Nat} (hr : Room k X.A) (ha : Ev X G W a fa) (hb : Ev X G W b fb) (hc : Ev X G W c fc) (hm : lastMarks [.Lt, .LtE] [b, c] = false := by with_unfolding_all rfl) (hK : X.K = G.K := by rfl) : Ev X G W (.Compare a [.Lt, .LtE] [b, c] pos) (eChain ltD leD fa fb fc) := ev_chain (lt_ok hr.units0) (op_le) (by first | exact og_rB0 | (rw [hK]; exact og_lt)) (by first | exact og_rB0 | (rw [hK]; exact og_lt)) ha hb hc hm
def strD : List D → Option D
  | [.int i] => if i.natAbs.log2 < 1920 then some (.str (toString i)) else none
  | [.bl b] => some (.str (if b then "True" else "False"))
  | [.str x] => some (.str x)
  | _ => none
def rStr3 : List V → Hp → VK → Prop := fun xs H Q => (∃ i, xs = [.int i] ∧ i.natAbs.log2 < 1920 ∧ Q (.str (toString i)) H) ∨ (∃ b, xs = [.bl b] ∧ Q (.str (if b then "True" else "False")) H) ∨ ∃ a, xs = [.str a] ∧ Q (.str a) H
theorem str_ok : CallR X (.type "str") rStr3 := by
  intro pins s σ H xs us Q I r h
  rcases h with h | ⟨b, rfl, q⟩ | h
  · exact call_str_int pins s σ H xs us Q I r h
  · obtain ⟨u, rfl, r1⟩ := vals1 r
    cases r1
    exact PySem.P.str_of_bool ⟨.str _, H, I.tok _, ⟨_, rfl⟩, q⟩
  · exact SkE.call_str_str pins s σ H xs us Q I r h
theorem cg_str : CaG G rStr3 strD := fun O H xs ds z Q hd hx hg q => by
  unfold strD at hg
  split at hg
  · split at hg
    · rename_i hz
      cases hg
      obtain ⟨v, rfl, h⟩ := rsa1 hx
      rw [rs_int h]
      exact .inl ⟨_, rfl, hz, q _ H (fun _ _ h => h) (.str _)⟩
    · cases hg
  · cases hg
    obtain ⟨v, rfl, h⟩ := rsa1 hx
    rw [rs_bl h]
    exact .inr (.inl ⟨_, rfl, q _ H (fun _ _ h => h) (.str _)⟩)
  · cases hg
    obtain ⟨v, rfl, h⟩ := rsa1 hx
    rw [rs_str h]
    exact .inr (.inr ⟨_, rfl, q _ H (fun _ _ h => h) (.str _)⟩)
  · cases hg
variable {e : Expr} {es : List Expr} {fr : Env → Out (List Rv)} {p : Pos}
theorem ev_len (hgl : Gl X "len") (hm : X.mg "len" = none) (ha : Av X G W (e :: es) fr) (hK : X.K = G.K := by rfl) (he : starEach (e :: es) X.env = (false, eval e X.env) :: starEach es X.env := by rfl) (hpl : (backTo pos (starEach es X.env)).any (·.1) = false := by rfl) : Ev X G W (.Call (.Name "len" p) (e :: es) [] pos) (eCallV lenD fr) := ev_callB (call_len) (by first | exact cg_len | (rw [hK]; exact cg_len)) hgl hm (by decide +kernel) ha (by decide) (by decide) he hpl
theorem ev_all (hgl : Gl X "all") (hm : X.mg "all" = none) (ha : Av X G W (e :: es) fr) (hK : X.K = G.K := by rfl) (hc : X.calm = true := by rfl) (he : starEach (e :: es) X.env = (false, eval e X.env) :: starEach es X.env := by rfl) (hpl : (backTo pos (starEach es X.env)).any (·.1) = false := by rfl) : Ev X G W (.Call (.Name "all" p) (e :: es) [] pos) (eCallV allD fr) := ev_callB (cr_all hc) (by first | exact cg_all | (rw [hK]; exact cg_all)) hgl hm (by decide +kernel) ha (by decide) (by decide) he hpl
theorem ev_any (hgl : Gl X "any") (hm : X.mg "any" = none) (ha : Av X G W (e :: es) fr) (hK : X.K = G.K := by rfl) (hc : X.calm = true := by rfl) (he : starEach (e :: es) X.env = (false, eval e X.env) :: starEach es X.env := by rfl) (hpl : (backTo pos (starEach es X.env)).any (·.1) = false := by rfl) : Ev X G W (.Call (.Name "any" p) (e :: es) [] pos) (eCallV anyD fr) := ev_callB (cr_any hc) (by first | exact cg_any | (rw [hK]; exact cg_any)) hgl hm (by decide +kernel) ha (by decide) (by decide) he hpl
theorem ev_min2 (hgl : Gl X "min") (hm : X.mg "min" = none) (ha : Av X G W (e :: es) fr) (hK : X.K = G.K := by rfl) (hc : X.calm = true := by rfl) (he : starEach (e :: es) X.env = (false, eval e X.env) :: starEach es X.env := by rfl) (hpl : (backTo pos (starEach es X.env)).any (·.1) = false := by rfl) : Ev X G W (.Call (.Name "min" p) (e :: es) [] pos) (eCallV min2D fr) := ev_callB (call_min2 hc) (by first | exact cg_min2 | (rw [hK]; exact cg_min2)) hgl hm (by decide +kernel) ha (by decide) (by decide) he hpl
theorem ev_max2 (hgl : Gl X "max") (hm : X.mg "max" = none) (ha : Av X G W (e :: es) fr) (hK : X.K = G.K := by rfl) (hc : X.calm = true := by rfl) (he : starEach (e :: es) X.env = (false, eval e X.env) :: starEach es X.env := by rfl) (hpl : (backTo pos (starEach es X.env)).any (·.1) = false := by rfl) : Ev X G W (.Call (.Name "max" p) (e :: es) [] pos) (eCallV max2D fr) := ev_callB (call_max2 hc) (by first | exact cg_max2 | (rw [hK]; exact cg_max2)) hgl hm (by decide +kernel) ha (by decide) (by decide) he hpl
theorem ev_maxL (hgl : Gl X "max") (hm : X.mg "max" = none) (ha : Av X G W (e :: es) fr) (hK : X.K = G.K := by rfl) (hc : X.calm = true := by rfl) (he : starEach (e :: es) X.env = (false, eval e X.env) :: starEach es X.env := by rfl) (hpl : (backTo pos (starEach es X.env)).any (·.1) = false := by rfl) : Ev X G W (.Call (.Name "max" p) (e :: es) [] pos) (eCallV maxD fr) := ev_callB (cr_max hc) (by first | exact cg_max | (rw [hK]; exact cg_max)) hgl hm (by decide +kernel) ha (by decide) (by decide) he hpl
theorem ev_sum (hgl : Gl X "sum") (hm : X.mg "sum" = none) (ha : Av X G W (e :: es) fr) (hK : X.K = G.K := by rfl) (hc : X.calm = true := by rfl) (he : starEach (e :: es) X.env = (false, eval e X.env) :: starEach es X.env := by rfl) (hpl : (backTo pos (starEach es X.env)).any (·.1) = false := by rfl) : Ev X G W (.Call (.Name "sum" p) (e :: es) [] pos) (eCallV sumD fr) := ev_callB (cr_sum hc) (by first | exact cg_sum | (rw [hK]; exact cg_sum)) hgl hm (by decide +kernel) ha (by decide) (by decide) he hpl
theorem ev_sorted {k : Nat} (hr : Room k X.A) (hgl : Gl X "sorted") (hm : X.mg "sorted" = none) (ha : Av X G W (e :: es) fr) (hK : X.K = G.K := by rfl) (he : starEach (e :: es) X.env = (false, eval e X.env) :: starEach es X.env := by rfl) (hpl : (backTo pos (starEach es X.env)).any (·.1) = false := by rfl) : Ev X G W (.Call (.Name "sorted" p) (e :: es) [] pos) (eCallV sortedD fr) := ev_callB (call_sortG hK hr.units) (by first | exact cg_sorted | (rw [hK]; exact cg_sorted)) hgl hm (by decide +kernel) ha (by decide) (by decide) he hpl
theorem ev_cint (hgl : Gl X "int") (hm : X.mg "int" = none) (ha : Av X G W (e :: es) fr) (hK : X.K = G.K := by rfl) (he : starEach (e :: es) X.env = (false, eval e X.env) :: starEach es X.env := by rfl) (hpl : (backTo pos (starEach es X.env)).any (·.1) = false := by rfl) : Ev X G W (.Call (.Name "int" p) (e :: es) [] pos) (eCallV intD fr) := ev_callTy (int_ok) (by first | exact cg_int | (rw [hK]; exact cg_int)) hgl hm (by decide +kernel) ha (by decide) (by decide) he hpl
theorem ev_cbool (hgl : Gl X "bool") (hm : X.mg "bool" = none) (ha : Av X G W (e :: es) fr) (hK : X.K = G.K := by rfl) (he : starEach (e :: es) X.env = (false, eval e X.env) :: starEach es X.env := by rfl) (hpl : (backTo pos (starEach es X.env)).any (·.1) = false := by rfl) : Ev X G W (.Call (.Name "bool" p) (e :: es) [] pos) (eCallV boolD fr) := ev_callTy (call_bool1) (by first | exact cg_bool | (rw [hK]; exact cg_bool)) hgl hm (by decide +kernel) ha (by decide) (by decide) he hpl
theorem ev_cstr (hgl : Gl X "str") (hm : X.mg "str" = none) (ha : Av X G W (e :: es) fr) (hK : X.K = G.K := by rfl) (he : starEach (e :: es) X.env = (false, eval e X.env) :: starEach es X.env := by rfl) (hpl : (backTo pos (starEach es X.env)).any (·.1) = false := by rfl) : Ev X G W (.Call (.Name "str" p) (e :: es) [] pos) (eCallV strD fr) := ev_callTy (str_ok) (by first | exact cg_str | (rw [hK]; exact cg_str)) hgl hm (by decide +kernel) ha (by decide) (by decide) he hpl
theorem ev_ctuple (hgl : Gl X "tuple") (hm : X.mg "tuple" = none) (ha : Av X G W (e :: es) fr) (hK : X.K = G.K := by rfl) (he : starEach (e :: es) X.env = (false, eval e X.env) :: starEach es X.env := by rfl) (hpl : (backTo pos (starEach es X.env)).any (·.1) = false := by rfl) : Ev X G W (.Call (.Name "tuple" p) (e :: es) [] pos) (eCallV tupleD fr) := ev_callTy (call_tuple_of) (by first | exact cg_tuple | (rw [hK]; exact cg_tuple)) hgl hm (by decide +kernel) ha (by decide) (by decide) he hpl
theorem ev_clist (hgl : Gl X "list") (hm : X.mg "list" = none) (ha : Av X G W (e :: es) fr) (hK : X.K = G.K := by rfl) (he : starEach (e :: es) X.env = (false, eval e X.env) :: starEach es X.env := by rfl) (hpl : (backTo pos (starEach es X.env)).any (·.1) = false := by rfl) : Ev X G W (.Call (.Name "list" p) (e :: es) [] pos) (eCallV listD fr) := ev_callTy (call_list_of) (by first | exact cg_list | (rw [hK]; exact cg_list)) hgl hm (by decide +kernel) ha (by decide) (by decide) he hpl
end

/-! ### a, b = x, y -/
theorem AS.hide_own (O : AS) (p q : Addr) : (O.hide p).own q = (O.own q).hide p := by
  have h1 : (fun b => (O.av b ∨ b = p) ∨ b = q) = fun b => (O.av b ∨ b = q) ∨ b = p := by
    funext b
    exact propext ⟨fun h => h.elim (fun h => h.elim (fun h => .inl (.inl h)) .inr) (fun h => .inl (.inr h)), fun h => h.elim (fun h => h.elim (fun h => .inl (.inl h)) .inr) (fun h => .inl (.inr h))⟩
  unfold AS.hide AS.own
  congr
section
variable {X : Cx} {G : Gr} {W : WX} {O : AS} {σ : L2.St} {H H1 : Hp} {ρ : Env}
theorem ER.setO {a : Addr} {o : OD} (i : Nat) (E : ER G (O.hide a) σ H ρ) (ha : ¬ O.av a) (hn : G.He a = none) (hr : OR G (O.hide a) H a o) : ER G (O.own a) (σ.set i (some (.ref a))) H (ρ.set i (.own false o)) := by
  have nw : ¬ O.wr a := fun z => ha (O.sub a z)
  have less : ∀ b, (O.own a).av b → (O.hide a).av b := fun _ z => z
  have geti : ∀ {j : Nat} {s : Slot}, (ρ.set i (.own false o))[j]? = some s → (j = i ∧ s = .own false o) ∨ (j ≠ i ∧ ρ[j]? = some s) := fun {j s} h => by
    by_cases z : i = j
    · subst z
      by_cases hl : i < ρ.length
      · rw [List.getElem?_set_self hl] at h
        exact .inl ⟨rfl, (Option.some.inj h).symm⟩
      · rw [List.getElem?_eq_none (by simpa using hl)] at h; cases h
    · rw [List.getElem?_set_ne z] at h
      exact .inr ⟨fun y => z y.symm, h⟩
  have sg : ∀ {j : Nat}, j ≠ i → (σ.set i (some (V.ref a)))[j]? = σ[j]? := fun h => List.getElem?_set_ne (fun y => h y.symm)
  refine ⟨by rw [List.length_set, List.length_set]; exact E.len, E.sub, fun b h => .inl (E.wsub b h), E.odom, E.dom, E.ext, E.tabs, fun j s h => ?_, fun j k b io io' o1 o2 h1 h2 h3 h4 => ?_⟩
  · rcases geti h with ⟨rfl, rfl⟩ | ⟨hj, h'⟩
    · have hl : j < ρ.length := by
        have := (List.getElem?_eq_some_iff.mp h).1
        simpa using this
      exact ⟨a, by rw [List.getElem?_set_self (by rw [← E.len]; exact hl)], hr.less less, .inr rfl, by rw [if_neg (by decide)]; exact hn⟩
    · have q := E.slot j s h'
      cases s with
      | un => trivial
      | val d => obtain ⟨w, k1, k2⟩ := q; exact ⟨w, by rw [sg hj]; exact k1, Rp.less less k2⟩
      | own io o' => obtain ⟨b, k1, k2, k3, k4⟩ := q; exact ⟨b, by rw [sg hj]; exact k1, OR.less less k2, .inl k3, k4⟩
  · have other : ∀ {m : Nat} {io : Bool} {o' : OD}, m ≠ i → ρ[m]? = some (.own io o') → (σ.set i (some (V.ref a)))[m]? = some (some (V.ref b)) → b ≠ a ∧ σ[m]? = some (some (V.ref b)) := fun {m io o'} hm k1 k2 => by
      rw [sg hm] at k2
      obtain ⟨c, j1, _, j3, _⟩ := E.slot m _ k1
      rw [k2] at j1
      cases j1
      exact ⟨fun z => nw (by rw [← z]; exact j3), k2⟩
    have atI : ∀ {m : Nat} {io : Bool} {o' : OD}, m = i → (ρ.set i (.own false o))[m]? = some (.own io o') → (σ.set i (some (V.ref a)))[m]? = some (some (V.ref b)) → b = a := fun {m io o'} hm k1 k2 => by
      subst hm
      have hl : m < σ.length := by
        have := (List.getElem?_eq_some_iff.mp k2).1
        simpa using this
      rw [List.getElem?_set_self hl] at k2
      cases k2
      rfl
    rcases geti h1 with ⟨e1, _⟩ | ⟨e1, g1⟩
    · rcases geti h2 with ⟨e2, _⟩ | ⟨e2, g2⟩
      · rw [e1, e2]
      · exact absurd (atI e1 h1 h3) (other e2 g2 h4).1
    · rcases geti h2 with ⟨e2, _⟩ | ⟨e2, g2⟩
      · exact absurd (atI e2 h2 h4) (other e1 g1 h3).1
      · exact E.inj j k b io io' o1 o2 g1 g2 (other e1 g1 h3).2 (other e2 g2 h4).2
/-- a name gets a value, or something new -/
def putN1 (i : Nat) (n : NV) (ρ : Env) : Env := match n with
  | .val d => ρ.set i (.val d)
  | .new o => ρ.set i (.own false o)
@[simp] theorem putN1_val (i : Nat) (d : D) (ρ : Env) : putN1 i (.val d) ρ = ρ.set i (.val d) := rfl
@[simp] theorem putN1_new (i : Nat) (o : OD) (ρ : Env) : putN1 i (.new o) ρ = ρ.set i (.own false o) := rfl
def sNew (i : Nat) (f : Env → Out NV) : Env → SO := fun ρ => (f ρ).so fun n ρ1 => .next (putN1 i n ρ1)
theorem new_in {i : Nat} {f : Env → Out NV} {Dn : Ends} (E : ER G O σ H ρ) (a : ansS G O W H (sNew i f ρ) Dn) : trN G W f σ H fun v H1 => Dn.nx (σ.set i (some v)) H1 := by
  refine ⟨O, ρ, E, ?_⟩
  unfold sNew at a
  cases q : f ρ with
  | bad => rw [q] at a; exact a
  | err c ρ1 => rw [q] at a; exact fun dd H' E' e' => a O σ dd H' (Gw.refl _ _) e' E'
  | ok n ρ1 =>
    rw [q, Out.so_ok] at a
    cases n with
    | val d => exact fun v H' E' e' r' => a O _ H' (Gw.refl _ _) e' (E'.set i r')
    | new o => exact fun p H' E' e' hp ro => a (O.own p) _ H' (Gw.own hp) e' (ER.setO i E' (fun z => E.dom p z hp) (E.ext.back hp) ro)
theorem sv_new (i : Nat) {x : Str} {e : Expr} {f : Env → Out NV} {pos pos' : Pos} (he : Nv X G W e f) (hN : X.N.Nodup) (hi : X.N[i]? = some x := by rfl) (hx : Loc X.env.scope x := by first | exact Or.inl rfl | exact Or.inr rfl)
    (hs : swapsWith e (some (.Name x pos')) pos.line X.env = pure false := by rfl) (hf : X.fn x = true ∨ X.env.scope.names.lookup x = some .local := by first | exact .inl rfl | exact .inr rfl | assumption) : Sv X G W (.Assign [.Name x pos'] e pos) (sNew i f) :=
  PSw_ (ps_set hN hi hx he hs hf) fun Dn σ H ⟨O, ρ, E, a⟩ => new_in E a
/-- a, b = x, y -/
def sPar (i j : Nat) (fa fb : Env → Out NV) : Env → SO := fun ρ => (fa ρ).so fun n ρ1 => (fb ρ1).so fun m ρ2 => .next (putN1 i n (putN1 j m ρ2))
theorem par_set {i j : Nat} (hij : i ≠ j) (σ : L2.St) (v w : Option V) : (σ.set i v).set j w = (σ.set j w).set i v := List.set_comm _ _ hij
theorem par_in {i j : Nat} (hij : i ≠ j) {fa fb : Env → Out NV} {Dn : Ends} (E : ER G O σ H ρ) (a : ansS G O W H (sPar i j fa fb ρ) Dn) : trN G W fa σ H fun v H1 => trN G W fb σ H1 fun w H2 => ∀ H3, (∀ b o, H2 b = some o → H3 b = some o) → Dn.nx ((σ.set i (some v)).set j (some w)) H3 := by
  refine ⟨O, ρ, E, ?_⟩
  unfold sPar at a
  cases q : fa ρ with
  | bad => rw [q] at a; exact a
  | err c ρ1 => rw [q] at a; exact fun dd H' E' e' => a O σ dd H' (Gw.refl _ _) e' E'
  | ok n ρ1 =>
    rw [q, Out.so_ok] at a
    cases n with
    | val d =>
      intro v H1 E1 e1 r1
      refine ⟨O, ρ1, E1, ?_⟩
      have a := ansS_gw (Gw.refl O H) e1 a
      cases q2 : fb ρ1 with
      | bad => rw [q2] at a; exact a
      | err c ρ2 => rw [q2] at a; exact fun dd H' E' e' => a O σ dd H' (Gw.refl _ _) e' E'
      | ok m ρ2 =>
        rw [q2, Out.so_ok] at a
        cases m with
        | val d2 =>
          intro w H2 E2 e2 r2 H3 s
          rw [par_set hij]
          exact a O _ H3 (Gw.refl _ _) (e2.trans (EX.same s)) (((E2.set j r2).set i (r1.ex e2)).same s)
        | new o2 =>
          intro p H2 E2 e2 hp ro H3 s
          rw [par_set hij]
          have E3 := ER.setO j E2 (fun z => E1.dom p z hp) (E1.ext.back hp) ro
          exact a (O.own p) _ H3 (Gw.own hp) (e2.trans (EX.same s)) ((E3.set i ((r1.gw (Gw.own hp)).ex (e2.mono fun b z => Or.inl z))).same s)
    | new o =>
      intro p H1 E1 e1 hp ro
      have exO : ∀ {Ha Hb : Hp}, EX (O.hide p) Ha Hb → EX O Ha Hb := fun e => ⟨e.keep, e.tups, e.frzs, e.dom⟩
      have npw : ¬ (O.hide p).wr p := fun z => E.dom p (O.sub p z) hp
      have ext : ∀ {Hb : Hp}, EX (O.hide p) H1 Hb → OR G (O.hide p) Hb p o := fun {Hb} e => ro.ex e fun u hu ht => e.keep p u hu npw ht
      refine ⟨O.hide p, ρ1, E1, ?_⟩
      cases q2 : fb ρ1 with
      | bad => rw [q2] at a; exact a
      | err c ρ2 => rw [q2] at a; exact fun dd H' E' e' => a O σ dd H' (Gw.refl _ _) (e1.trans (exO e')) (E'.unhide E.sub)
      | ok m ρ2 =>
        rw [q2, Out.so_ok] at a
        cases m with
        | val d2 =>
          intro w H2 E2 e2 r2 H3 s
          rw [par_set hij]
          exact a (O.own p) _ H3 (Gw.own hp) ((e1.trans (exO e2)).trans (EX.same s)) ((ER.setO i (E2.set j r2) (fun z => E.dom p z hp) (E.ext.back hp) (ext e2)).same s)
        | new o2 =>
          intro p2 H2 E2 e2 hp2 ro2 H4 s
          rw [par_set hij]
          have E3 : ER G ((O.hide p).own p2) (σ.set j (some (.ref p2))) H2 (ρ2.set j (.own false o2)) := ER.setO j E2 (fun z => E1.dom p2 z hp2) (E1.ext.back hp2) ro2
          rw [AS.hide_own] at E3
          have g2 : Gw (O.hide p) H1 ((O.hide p).own p2) := Gw.own hp2
          have ro3 : OR G ((O.own p2).hide p) H2 p o := by
            rw [← AS.hide_own]
            exact (ro.gw g2).ex (e2.mono fun b z => Or.inl z) fun u hu ht => e2.keep p u hu npw ht
          have h0 : H p2 = none := e1.back hp2
          have npp : ¬ (O.own p2).av p := fun z => z.elim (fun z => E.dom p z hp) fun z => by
            have : H1 p ≠ none := E1.dom p (.inr rfl)
            rw [z] at this
            exact this hp2
          have gg : Gw O H ((O.own p2).own p) := ⟨fun _ z => .inl (.inl z), fun b z => z.elim (fun z => z.elim .inl fun z => .inr (by rw [z]; exact h0)) fun z => .inr (by rw [z]; exact hp), fun _ z => .inl (.inl z), fun b z => z.elim (fun z => z.elim .inl fun z => .inr (by rw [z]; exact h0)) fun z => .inr (by rw [z]; exact hp)⟩
          exact a ((O.own p2).own p) _ H4 gg ((e1.trans (exO e2)).trans (EX.same s)) ((ER.setO i E3 npp (E.ext.back hp) ro3).same s)
theorem par_use {fa fb : Env → Out NV} {S : V → V → Hp → Prop} {S' : List V → Hp → Prop} (h : trN G W fa σ H fun v H1 => trN G W fb σ H1 fun w H2 => S v w H2) (q : ∀ v w H2, S v w H2 → S' [v, w] H2) :
    tCons (trN G W fa) (tCons (trN G W fb) tNil) σ H S' := by
  obtain ⟨O1, ρ1, E1, a1⟩ := h
  refine ⟨O1, ρ1, E1, ?_⟩
  have key : ∀ v H1, trN G W fb σ H1 (fun w H2 => S v w H2) → trN G W fb σ H1 (fun w H2 => tNil σ H2 fun vs H3 => S' (v :: w :: vs) H3) := fun v H1 ⟨O2, ρ2, E2, a2⟩ => by
    refine ⟨O2, ρ2, E2, ?_⟩
    cases z : fb ρ2 with
    | bad => rw [z] at a2; exact a2
    | err c ρ3 => rw [z] at a2; exact a2
    | ok m ρ3 =>
      rw [z] at a2
      cases m with
      | val d => exact fun w H2 E3 e3 r3 => q v w H2 (a2 w H2 E3 e3 r3)
      | new o => exact fun p H2 E3 e3 hp ro => q v (.ref p) H2 (a2 p H2 E3 e3 hp ro)
  cases z : fa ρ1 with
  | bad => rw [z] at a1; exact a1
  | err c ρ2 => rw [z] at a1; exact a1
  | ok n ρ2 =>
    rw [z] at a1
    cases n with
    | val d => exact fun v H2 E2 e2 r2 => key v H2 (a1 v H2 E2 e2 r2)
    | new o => exact fun p H2 E2 e2 hp ro => key (.ref p) H2 (a1 p H2 E2 e2 hp ro)
theorem sv_par (i j : Nat) {x y : Str} {a b : Expr} {fa fb : Env → Out NV} {px py pt pos : Pos} {kt k2 pt2} (ha : Nv X G W a fa) (hb : Nv X G W b fb) (hN : X.N.Nodup) (hij : i ≠ j := by decide) (hi : X.N[i]? = some x := by rfl) (hj : X.N[j]? = some y := by rfl)
    (hx : X.env.scope.names.lookup x = some .local := by rfl) (hy : X.env.scope.names.lookup y = some .local := by rfl) (hw : swappedStores [.Tuple [.Name x px, .Name y py] kt pt] (.Tuple [a, b] k2 pt2) X.env = pure (some [x, y]) := by rfl)
    (hs : swapsWithSole [.Tuple [.Name x px, .Name y py] kt pt] (.Tuple [a, b] k2 pt2) pos.line X.env = pure false := by rfl) (hc : X.calm = true := by rfl)
    (hs1 : starEach [a, b] X.env = (false, eval a X.env) :: starEach [b] X.env := by rfl) (hs2 : starEach [b] X.env = (false, eval b X.env) :: starEach [] X.env := by rfl) : Sv X G W (.Assign [.Tuple [.Name x px, .Name y py] kt pt] (.Tuple [a, b] k2 pt2) pos) (sPar i j fa fb) :=
  PSw_ (ps_par hc hN hi hj hij hx hy (pa_cons ha (pa_cons hb pa_nil hs2) hs1) hw hs) fun Dn σ H ⟨O, ρ, E, a⟩ => by
    exact par_use (S := fun v w H2 => ∀ H3, (∀ b o, H2 b = some o → H3 b = some o) → Dn.nx ((σ.set i (some v)).set j (some w)) H3) (par_in hij E a) fun v w H2 q => ⟨v, w, rfl, q H2 fun _ _ z => z⟩
/-- .. with names that blocks or lambdas see, too: through a tuple -/
theorem sv_parT (i j : Nat) {x y : Str} {a b : Expr} {fa fb : Env → Out NV} {px py pt pos : Pos} {kt k2 pt2} (ha : Nv X G W a fa) (hb : Nv X G W b fb) (hN : X.N.Nodup) (hK : X.K = G.K := by rfl) (hij : i ≠ j := by decide) (hi : X.N[i]? = some x := by rfl) (hj : X.N[j]? = some y := by rfl)
    (hx : Loc X.env.scope x := by first | exact Or.inl rfl | exact Or.inr rfl) (hy : Loc X.env.scope y := by first | exact Or.inl rfl | exact Or.inr rfl)
    (hfx : X.fn x = true ∨ X.env.scope.names.lookup x = some .local := by first | exact .inl rfl | exact .inr rfl) (hfy : X.fn y = true ∨ X.env.scope.names.lookup y = some .local := by first | exact .inl rfl | exact .inr rfl)
    (hw : swappedStores [.Tuple [.Name x px, .Name y py] kt pt] (.Tuple [a, b] k2 pt2) X.env = pure none := by rfl) (hs : swapsWithSole [.Tuple [.Name x px, .Name y py] kt pt] (.Tuple [a, b] k2 pt2) pos.line X.env = pure false := by rfl) (hc : X.calm = true := by rfl)
    (h1 : (assignEach [.Tuple [.Name x px, .Name y py] kt pt] X.env).map (·.2) = [assign (.Tuple [.Name x px, .Name y py] kt pt) X.env] := by rfl)
    (hs1 : starEach [a, b] X.env = (false, eval a X.env) :: starEach [b] X.env := by rfl) (hs2 : starEach [b] X.env = (false, eval b X.env) :: starEach [] X.env := by rfl)
    (hn : (assignEach [.Name x px, .Name y py] X.env).length = 2 := by rfl) (hst : (assignEach [.Name x px, .Name y py] X.env).findIdx? (·.1) = none := by rfl)
    (ha1 : (assignEach [.Name x px, .Name y py] X.env).map (·.2) = assign (.Name x px) X.env :: (assignEach [.Name y py] X.env).map (·.2) := by rfl) (ha2 : (assignEach [.Name y py] X.env).map (·.2) = assign (.Name y py) X.env :: (assignEach [] X.env).map (·.2) := by rfl) : Sv X G W (.Assign [.Tuple [.Name x px, .Name y py] kt pt] (.Tuple [a, b] k2 pt2) pos) (sPar i j fa fb) :=
  PSw_ (ps_asg (pe_tup (pa_cons ha (pa_cons hb pa_nil hs2) hs1)) (pg_tup hc (pgs_cons (pg_name hN hi hx hfx) (pgs_cons (pg_name hN hj hy hfy) pgs_nil ha2) ha1) hn hst) hs hw h1) fun Dn σ H ⟨O, ρ, E, a⟩ => by
    show tCons (trN G W fa) (tCons (trN G W fb) tNil) σ H (fun xs H1 => xs.length ≤ sizeLine ∧ ∀ p, H1 p = none → gTup X.K 2 (gCons (gName i) (gCons (gName j) gNil)) (.ref p) σ (upd H1 p (.tup xs)) Dn.nx)
    refine par_use (S := fun v w H2 => ∀ H3, (∀ b o, H2 b = some o → H3 b = some o) → Dn.nx ((σ.set i (some v)).set j (some w)) H3) (par_in hij E a) fun v w H2 q => ?_
    refine ⟨by rw [sizeLine_eq]; simp, fun p hp => ⟨p, [v, w], rfl, SqT.of upd_same, rfl, v, [w], rfl, w, [], rfl, rfl, q _ (upd_new hp)⟩⟩
end
end EL

/-! E14: defs of the module, calls without arguments, ranges as lists. -/
namespace EL
open PySem PySem.Spec PyProof.Rows L2
section
variable {P : Program} {w : World} {K : PySem.W.Frag} {mg : Str → Option Value} {base : Heap} {x qual : Str} {params : Arguments} {body : List Stmt} {scope : Scope} {f : Addr} {fd : FuncData} {cv : String → Value} {T : List (Addr × Str)}
theorem fk_of {N ps : List Str} {k n m : Nat} {fb : Env → SO} (F : FunD K x qual params body scope [] [] f fd) (hm : mg x = some (.ref f)) (S : FnScope N ps scope)
    (hbi : ∀ (kV doc pm : Value) (an : Option Addr) (cdv ct : Value) (us : List Value), us.length = ps.length → bindArgs (PySem.W.fnOf x qual params body scope .none kV doc pm an cdv ct) ⟨us, []⟩ = pure (ps.zip us))
    (hb : ∀ (cdv : Value) (A : Around) (outer : List PySem.Env) (s : Shared) (H : Hp) (E : XK) (O : AS) (vs : List V) (as : List Slot), Room k (A.deeper (envOfC qual scope s.heap.objs.size f cdv)) → Bv (cxOf (L2N.CX P w) P w K mg base N qual scope f cdv A outer s H E) (Gf K cv T O H vs as) (fun cls d _ H => E cls d H) body fb)
    (hn : ps.length = n := by rfl) (hN : N.length = m := by rfl) (hle : n ≤ m := by decide) : FK P w K mg base cv T x (k + 1) (mOf n m fb) :=
  ⟨f, fd, ps, hm, F.kp, F.bindsN hbi, by
    subst hn hN
    exact fn_ok F S hle hb⟩
end
section
variable {X : Cx} {G : Gr} {W : WX}
theorem nv_call00 {x : Str} {p pos : Pos} {n k : Nat} {m : List Slot → FR} (F : FK X.prog X.w X.K X.mg X.base G.cv G.T x n m) (hn : n ≤ k) (hr : Room k X.A) (hg : Gl X x) (tk : L2N.Takes X W) (hK : X.K = G.K := by rfl)
    (hdb : (x == ("__debug__" : Str)) = false := by decide) : Nv X G W (.Call (.Name x p) [] [] pos) (nCall m aNil) := by
  obtain ⟨f, fd, ps, h1, h2, h3, h4⟩ := F.ex
  refine ⟨fun pins s σ H Q I h => ?_⟩
  obtain ⟨O, ρ, E, a⟩ := h
  have h := callA_in E a
  rw [← hK] at h
  obtain ⟨O1, ρ1, E1, a1⟩ := h
  have h := a1 [] H E1 (EX.refl _ _) .nil
  refine wpAny_Call_Name_kw (ld_glob I hg h1 ?_ hdb)
  exact PySem.W.callWith_K0 I.kIn h2 (run_fnS (us := []) h4 (hr.mono hn) h3 (L2N.passAt tk σ) I .nil h)
/-! ### list(range(n)) -/
def rgD (j : Int) : List D := (List.range j.toNat).map fun (i : Nat) => .int (i : Int)
def rgO : Rv → Option (List D)
  | .val (.int j) => if -(2 ^ 62) ≤ j ∧ j ≤ 16777216 then some (rgD j) else none
  | _ => none
def fRg (f : Env → Out Rv) : Env → Out (List D) := fun ρ => (f ρ).bind fun r ρ1 => Out.of (rgO r) ρ1
theorem rg_rpa {O : AS} {H : Hp} (j : Int) : RpA G.K G.cv O H (rgV 0 j) (rgD j) := by
  unfold rgV rgD
  rw [Int.sub_zero]
  generalize List.range j.toNat = l
  induction l with
  | nil => exact .nil
  | cons i l ih =>
    rw [List.map_cons, List.map_cons, Int.zero_add]
    exact .cons (.int _) ih
theorem fv_listRg {a : Expr} {f : Env → Out Rv} {p p2 q pos : Pos} (ha : Ev X G W a f) (hg : Gl X "list") (hm : X.mg "list" = none) (hg2 : Gl X "range") (hm2 : X.mg "range" = none) (hc : X.calm = true := by rfl)
    (na : starEach [a] X.env = (false, eval a X.env) :: starEach [] X.env := by rfl) (nb : starEach [.Call (.Name "range" p2) [a] [] q] X.env = (false, eval (.Call (.Name "range" p2) [a] [] q) X.env) :: starEach [] X.env := by rfl) :
    Fv X G W (.Call (.Name "list" p) [.Call (.Name "range" p2) [a] [] q] [] pos) (fRg f) :=
  PEw_ (pe_listRg hc hg hm (prg_1 hg2 hm2 ha na) nb) fun σ H Q ⟨O, ρ, E, a⟩ => ⟨O, ρ, E, by
    unfold fRg at a
    cases h : f ρ with
    | bad => rw [h] at a; exact a
    | err c ρ1 => rw [h] at a; exact a
    | ok r ρ1 =>
      rw [h, Out.bind_ok] at a
      intro v H1 E1 e1 r1
      cases h2 : rgO r with
      | none => rw [h2] at a; exact a.elim
      | some ds =>
        rw [h2, Out.of_some] at a
        unfold rgO at h2
        split at h2
        · rename_i j
          split at h2
          · rename_i hz
            cases h2
            have r1 : Rp G.K G.cv O H1 v (.int j) := r1
            cases r1
            refine ⟨j, rfl, ⟨by omega, by omega, by omega, by omega, by omega⟩, fun q hq => ?_⟩
            exact a _ _ q _ (E1.hide hq) (e1.trans (EX.new hq)) ⟨rfl, e1.back hq, upd_same, rg_rpa j⟩
          · cases h2
        · cases h2⟩
end
end EL

/-! E15: slices backwards, sets of a tuple's pairs, defs that call themselves. -/
namespace EL
open PySem PySem.Spec PyProof.Rows L2

/-! ### t[::-1], t[:0:-1] -/
def revHi (hi : Option Int) (n : Nat) : Nat := match hi with
  | none => n
  | some _ => n - 1
def revLo (hi : Option Int) (n : Nat) : Int := match hi with
  | none => -1
  | some _ => min 0 ((n : Int) - 1)
theorem rev_adj (hi : Option Int) (h : hi = none ∨ hi = some 0) (n : Nat) : Builtin.Slice.sliceAdjust none hi (-1) (n : Int) = ((n : Int) - 1, revLo hi n) := by
  rcases h with rfl | rfl
  · rfl
  · unfold Builtin.Slice.sliceAdjust revLo
    simp
theorem rev_places (hi : Option Int) (h : hi = none ∨ hi = some 0) (n : Nat) : Builtin.Slice.slicePlaces ((n : Int) - 1) (revLo hi n) (-1) = revHi hi n := by
  have e1 : (- -1 : Int) = 1 := rfl
  unfold Builtin.Slice.slicePlaces revHi revLo
  rcases h with rfl | rfl
  · simp only [show ¬ ((-1 : Int) > 0) by omega, if_false, e1, Int.ediv_one]
    split <;> omega
  · simp only [show ¬ ((-1 : Int) > 0) by omega, if_false, e1, Int.ediv_one]
    split <;> omega
theorem filterMap_same {α β : Type} {f g : α → Option β} : ∀ {l : List α}, (∀ x ∈ l, f x = g x) → l.filterMap f = l.filterMap g
  | [], _ => rfl
  | a :: l, h => by
    have h1 := h a List.mem_cons_self
    have h2 := filterMap_same (l := l) fun x hx => h x (List.mem_cons_of_mem _ hx)
    rw [List.filterMap_cons, List.filterMap_cons, h1, h2]
theorem rev_pick (xs : List Value) (k : Nat) (hk : k ≤ xs.length) : (List.range k).filterMap (fun (m : Nat) => xs.toArray[(((xs.toArray.size : Nat) : Int) - 1 + (m : Int) * (-1)).toNat]?) = xs.reverse.take k := by
  have e : (List.range k).filterMap (fun (m : Nat) => xs.toArray[(((xs.toArray.size : Nat) : Int) - 1 + (m : Int) * (-1)).toNat]?) = (List.range k).filterMap (fun (m : Nat) => xs.reverse[m]?) := by
    refine filterMap_same fun m hm => ?_
    have hm : m < k := List.mem_range.mp hm
    have e1 : (((xs.toArray.size : Nat) : Int) - 1 + (m : Int) * (-1)).toNat = xs.length - 1 - m := by
      rw [List.size_toArray]
      omega
    rw [e1, List.getElem?_reverse (by omega)]
    simp
  rw [e]
  apply List.ext_getElem?
  intro i
  have e2 : (List.range k).filterMap (fun (m : Nat) => xs.reverse[m]?) = (List.range k).map fun m => xs.reverse.getD m .none := by
    rw [← List.filterMap_eq_map]
    refine filterMap_same fun m hm => ?_
    have hm : m < k := List.mem_range.mp hm
    have hl : m < xs.reverse.length := by rw [List.length_reverse]; omega
    simp [List.getD_eq_getElem?_getD, List.getElem?_eq_getElem hl]
  rw [e2, List.getElem?_map, List.getElem?_take]
  by_cases hi : i < k
  · have hl : i < xs.reverse.length := by rw [List.length_reverse]; omega
    rw [List.getElem?_range hi, if_pos hi]
    simp [List.getD_eq_getElem?_getD, List.getElem?_eq_getElem hl]
  · rw [if_neg hi, List.getElem?_eq_none (by rw [List.length_range]; omega)]
    rfl
section
variable {prog : Program} {w : World} {A : Around} {E : Value → Shared → Prop} {s : Shared}
theorem applied_rev {sl : Addr} {vu vs : Value} {hi : Option Int} {n : Nat} {Q : Int × Int × Nat → Shared → Prop} (h0 : hi = none ∨ hi = some 0) (hs : s.heap.IsSliceOf sl .none vu vs) (pu : IsPart vu hi) (ps : IsPart vs (some (-1)))
    (h : Q ((n : Int) - 1, -1, revHi hi n) s) : wpAny (model prog w) A (Builtin.Slice.sliceApplied (.ref sl) (pure (n : Int))) Q E s := by
  obtain ⟨ob, hob, _, hdb⟩ := id hs
  unfold Builtin.Slice.sliceApplied Builtin.Slice.sliceFields
  refine wpAny_bind (wpAny_bind (wpAny_field hob hdb (x := .none) rfl (wpAny_bind (wpAny_field hob hdb (x := vu) rfl (wpAny_bind (wpAny_field hob hdb (x := vs) rfl (wpAny_pure ?_)))))))
  refine wpAny_bind (HT.slicePart_ ps ?_)
  show wpAny _ _ (if ((-1 : Int) == 0) = true then _ else _) _ _ s
  rw [if_neg (show ¬ ((-1 : Int) == 0) = true by decide)]
  refine wpAny_bind (HT.slicePart_ .none (wpAny_bind (HT.slicePart_ pu (wpAny_bind (wpAny_pure ?_)))))
  show wpAny _ _ (match Builtin.Slice.sliceAdjust none hi (-1) (n : Int) with | (a, b) => pure (a, (-1 : Int), Builtin.Slice.slicePlaces a b (-1))) _ _ s
  rw [rev_adj hi h0 n]
  show wpAny _ _ (pure ((n : Int) - 1, (-1 : Int), Builtin.Slice.slicePlaces ((n : Int) - 1) (revLo hi n) (-1))) _ _ s
  rw [rev_places hi h0 n]
  exact wpAny_pure h
theorem getItem_tup_rev {t sl : Addr} {its : List Value} {vu vs : Value} {hi : Option Int} {Q : Value → Shared → Prop} (h0 : hi = none ∨ hi = some 0) (ht : IsTup s.heap t its.toArray) (hs : s.heap.IsSliceOf sl .none vu vs) (pu : IsPart vu hi) (ps : IsPart vs (some (-1)))
    (h : Q (.ref s.heap.objs.size) { s with heap := s.heap.push { cls := .type "tuple", data := .seq (its.reverse.take (revHi hi its.length)).toArray } }) (hsz : its.length ≤ sizeLine) : wpAny (model prog w) A (getItem (.ref t) (.ref sl)) Q E s := by
  have hk : revHi hi its.length ≤ its.length := by
    unfold revHi
    rcases h0 with rfl | rfl
    · exact Nat.le_refl _
    · exact Nat.sub_le _ _
  have hfit : sizeOk (.seq (its.reverse.take (revHi hi its.length)).toArray) := by
    show (its.reverse.take (revHi hi its.length)).toArray.size ≤ sizeLine
    rw [List.size_toArray, List.length_take, List.length_reverse]
    omega
  obtain ⟨ob, hob, hcb, _⟩ := id hs
  have hTs : s.TypeIs (.ref sl) "slice" := ⟨ob, hob, hcb⟩
  unfold getItem
  try with_reducible refine wpAny_holding ?_
  first | refine wpAny_bind (wpAny_pure ?_) | skip
  refine wpAny_bind (wpAny_sequenceKey ht.typeIs (by decide) ?_)
  refine wpAny_bind (wpAny_callSpecial?_slot (name := Str.ofString "__getitem__") ht.typeIs PyProof.Rows.slot_tuple_getitem (wpAny_call_entry PyProof.Rows.slot_tuple_getitem ht.typeIs entry_tuple_getitem ?_ (args_tuple_getitem _ _)))
  show wpAny _ _ (Builtin.Tuple.tupleItemsOf (.ref t) >>= _) _ _ s
  refine wpAny_bind (tupleItemsOf_ ht ?_)
  refine wpAny_bind (wpAny_typeOf hTs ?_)
  rw [if_pos (by decide)]
  refine wpAny_bind (applied_rev (n := its.toArray.size) h0 hs pu ps ?_)
  show wpAny _ _ (if (((its.toArray.size : Nat) : Int) - 1 == 0 && (-1 : Int) == 1 && revHi hi its.toArray.size == its.toArray.size) = true then _ else _) _ _ s
  rw [if_neg (fun q => by
    rw [Bool.and_eq_true, Bool.and_eq_true] at q
    exact absurd q.1.2 (by decide))]
  have e : revHi hi its.toArray.size = revHi hi its.length := by rw [List.size_toArray]
  rw [e, rev_pick its _ hk]
  first
    | exact wpAny_bind (m := Builtin.Tuple.tupleExact _) (wpAny_newObj_type (wpAny_pure ⟨_, rfl, wpAny_pure h⟩) hfit)
    | exact wpAny_bind (m := Builtin.Tuple.tupleExact _) (wpAny_newObj_type (wpAny_bind (wpAny_pure (wpAny_pure ⟨_, rfl, wpAny_pure h⟩))) hfit)
    | exact wpAny_bind (wpAny_bind (m := Builtin.Tuple.tupleExact _) (wpAny_newObj_type (wpAny_pure (wpAny_pure ⟨_, rfl, wpAny_pure h⟩)) hfit))
    | exact wpAny_bind (wpAny_bind (m := Builtin.Tuple.tupleExact _) (wpAny_newObj_type (wpAny_pure ⟨_, rfl, wpAny_pure h⟩) hfit))
end
theorem vals_rtake {us : List V} {its : List Value} (r : Vals us its) (k : Nat) : Vals (us.reverse.take k) (its.reverse.take k) := r.reverse.take k
def tRevT (K : PySem.W.Frag) (hi : Option Int) (te : TE) : TE := fun σ H Q => te σ H fun x H1 => ∃ a xs, x = .ref a ∧ ((SqT K H1 a xs ∧ ∀ p, H1 p = none → Q (.ref p) (upd H1 p (.tup (xs.reverse.take (revHi hi xs.length))))) ∨ (hi = none ∧ SqL K H1 a xs ∧ ∀ p, H1 p = none → Q (.ref p) (upd H1 p (.lst xs.reverse))))
section
variable {X : Cx} {G : Gr} {W : WX}
theorem pe_revA {e : Expr} {te : TE} {uh : Option Expr} {th : TO} {k : Nat} {p1 p2 p3 pos : Pos} (hi : Option Int) (h0 : hi = none ∨ hi = some 0) (hu : PO X uh th) (hth : ∀ σ H (Q : Option Int → Hp → Prop), Q hi H → th σ H Q) (he : PE X e te) :
    PE X (.Subscript e (.Slice none uh (some (.UnaryOp .USub (.Constant (.int 1) k p1) p2)) p3) pos) (tRevT X.K hi te) := by
  refine ⟨fun pins s σ H Q I h => ?_⟩
  refine Subscript_ (thn (he.run pins s σ H _ I h) fun v s1 ⟨x, H1, I1, r1, a, xs, ex, q⟩ => ?_)
  subst ex
  cases r1
  have hst : PO X (some (.UnaryOp .USub (.Constant (.int 1) k p1) p2)) (tPart (tUn (rU fun i => .int (-i)) (tC (.int 1)))) := po_some (pe_un un_neg pe_int)
  refine wpAny_Slice (thn (po_none.run pins s1 σ H1 (fun o Hn => o = none ∧ Hn = H1) I1 ⟨rfl, rfl⟩) fun vl s2 ⟨l, H2, I2, pl, el, e2⟩ => ?_)
  subst el e2
  refine thn (hu.run pins s2 σ H2 (fun o Hn => o = hi ∧ Hn = H2) I2 (hth _ _ _ ⟨rfl, rfl⟩)) fun vu s3 ⟨u, H3, I3, pu, eu, e3⟩ => ?_
  subst eu e3
  refine thn (hst.run pins s3 σ H3 (fun o Hn => o = some (-1) ∧ Hn = H3) I3 ⟨1, rfl, -1, rfl, rfl, rfl⟩) fun vs s4 ⟨o, H4, I4, ps, eo, e4⟩ => ?_
  subst eo e4
  have evl : vl = .none := by cases pl; rfl
  subst evl
  have I5 : Inv X pins σ H4 { s4 with heap := s4.heap.push { cls := .type "slice", data := .fields #[.none, vu, vs] } } := I4.kept (t' := s4.toks) fun b ob z => Heap.get?_push_of_some _ z
  show wpAny (model X.prog X.w) X.A (subscriptTail e (.Slice none uh (some (.UnaryOp .USub (.Constant (.int 1) k p1) p2)) p3) (.ref a) (.ref s4.heap.objs.size)) (EP X pins σ Q) X.xe { s4 with heap := s4.heap.push { cls := .type "slice", data := .fields #[.none, vu, vs] } }
  rcases q with ⟨hx, q⟩ | ⟨en, hx, q⟩
  · obtain ⟨its, r, ht, hz⟩ := I5.tuple hx
    have hlen := r.length
    refine tail_any (ops := [.ref a, .ref s4.heap.objs.size]) ht.typeIs PyProof.Rows.slot_tuple_getitem.lookup ?_ (by with_unfolding_all rfl)
    refine getItem_tup_rev h0 ht (Heap.IsSliceOf.new _ .none vu vs) pu ps ?_ (by omega)
    rw [← hlen]
    refine ⟨.ref _, _, I5.laid (t' := s4.toks) (o := .tup (xs.reverse.take (revHi u xs.length))) (fun b ob z => Heap.get?_push_of_some _ z) (Nat.le_refl _) ?_, rfl, q _ (I5.hok.fresh (Nat.le_refl _))⟩
    exact ⟨by rw [List.length_take, List.length_reverse]; omega, _, vals_rtake r _, IsTup.new _ _⟩
  · subst en
    obtain ⟨its, r, ht, hz⟩ := I5.list hx
    have hlen := r.length
    refine tail_any (ops := [.ref a, .ref s4.heap.objs.size]) ht.isList.typeIs (PySem.slot_list_getitem.lookup) ?_ (by with_unfolding_all rfl)
    refine wpAny_getItem_list_slice ht.isList (Heap.IsSliceOf.new _ .none vu vs) .none pu ps (by decide) ?_ (by rw [List.size_toArray]; omega)
    rw [PySem.W.krv_pick]
    refine ⟨.ref _, _, I5.laid (t' := s4.toks) (o := .lst xs.reverse) (fun b ob z => Heap.get?_push_of_some _ z) (Nat.le_refl _) ?_, rfl, q _ (I5.hok.fresh (Nat.le_refl _))⟩
    exact ⟨by rw [List.length_reverse]; exact hz, _, 0, r.reverse, Heap.get?_push_size _ rfl⟩
def revD : D → Option D
  | .tup xs => some (.tup xs.reverse)
  | .lst xs => some (.lst xs.reverse)
  | _ => none
def rev0D : D → Option D
  | .tup xs => some (.tup (xs.reverse.take (xs.length - 1)))
  | _ => none
def eRev (f : Env → Out Rv) : Env → Out Rv := fun ρ => (f ρ).bind fun r ρ1 => Out.of (((deref r ρ1).bind revD).map Rv.val) ρ1
def eRev0 (f : Env → Out Rv) : Env → Out Rv := fun ρ => (f ρ).bind fun r ρ1 => Out.of (((deref r ρ1).bind rev0D).map Rv.val) ρ1
theorem ev_rev {e : Expr} {f : Env → Out Rv} {k : Nat} {p1 p2 p3 pos : Pos} (he : Ev X G W e f) (hK : X.K = G.K := by rfl) : Ev X G W (.Subscript e (.Slice none none (some (.UnaryOp .USub (.Constant (.int 1) k p1) p2)) p3) pos) (eRev f) :=
  PEw_ (pe_revA none (.inl rfl) po_none (fun _ _ _ z => z) he) fun σ H Q ⟨O, ρ, E, a⟩ => ⟨O, ρ, E, ans_in (g := fun r ρ1 => Out.of (((deref r ρ1).bind revD).map Rv.val) ρ1) a fun r ρ1 v H1 E1 e1 r1 a1 => by
    obtain ⟨z, hz, q⟩ := ans_of a1
    cases h1 : deref r ρ1 with
    | none => rw [h1] at hz; cases hz
    | some d =>
      rw [h1, Option.bind_some] at hz
      have hr := deref_rs E1 r1 h1
      unfold revD at hz
      split at hz
      · cases hz
        obtain ⟨a, us, rfl, k1, k2⟩ := rs_tup hr
        refine ⟨a, us, rfl, .inl ⟨by rw [hK]; exact k1, fun p hp => ?_⟩⟩
        have e : us.reverse.take (revHi none us.length) = us.reverse := by
          show us.reverse.take us.length = us.reverse
          rw [← List.length_reverse, List.take_length]
        rw [e]
        exact ans_ok (R1 := RvR) q (E1.new hp) (EX.new hp) (rp_newT hp k2.reverse)
      · cases hz
        obtain ⟨a, us, rfl, k1, k2⟩ := hr
        exact ⟨a, us, rfl, .inr ⟨rfl, by rw [hK]; exact k1, fun p hp => ans_ok (R1 := RvR) q (E1.new hp) (EX.new hp) (rp_newL E1.dom hp k2.reverse)⟩⟩
      · cases hz⟩
theorem ev_rev0 {e : Expr} {f : Env → Out Rv} {j k : Nat} {p0 p1 p2 p3 pos : Pos} (he : Ev X G W e f) (hK : X.K = G.K := by rfl) : Ev X G W (.Subscript e (.Slice none (some (.Constant (.int 0) j p0)) (some (.UnaryOp .USub (.Constant (.int 1) k p1) p2)) p3) pos) (eRev0 f) :=
  PEw_ (pe_revA (some 0) (.inr rfl) (po_some pe_int) (fun _ _ _ z => ⟨0, rfl, z⟩) he) fun σ H Q ⟨O, ρ, E, a⟩ => ⟨O, ρ, E, ans_in (g := fun r ρ1 => Out.of (((deref r ρ1).bind rev0D).map Rv.val) ρ1) a fun r ρ1 v H1 E1 e1 r1 a1 => by
    obtain ⟨z, hz, q⟩ := ans_of a1
    cases h1 : deref r ρ1 with
    | none => rw [h1] at hz; cases hz
    | some d =>
      rw [h1, Option.bind_some] at hz
      have hr := deref_rs E1 r1 h1
      unfold rev0D at hz
      split at hz
      · cases hz
        obtain ⟨a, us, rfl, k1, k2⟩ := rs_tup hr
        refine ⟨a, us, rfl, .inl ⟨by rw [hK]; exact k1, fun p hp => ?_⟩⟩
        refine ans_ok (R1 := RvR) q (E1.new hp) (EX.new hp) ?_
        have hl := k2.len
        show Rp G.K G.cv O _ _ (.tup (_ : List D))
        exact rp_newT hp (by rw [← hl]; exact k2.reverse.take _)
      · cases hz⟩
end
/-! ### a def that calls itself: nothing promised -/
theorem fk_bad {P : Program} {w : World} {K : PySem.W.Frag} {mg : Str → Option Value} {base : Heap} {x qual : Str} {params : Arguments} {body : List Stmt} {scope : Scope} {f : Addr} {fd : FuncData} {cv : String → Value} {T : List (Addr × Str)} {ps : List Str} {n : Nat} (F : FunD K x qual params body scope [] [] f fd) (hm : mg x = some (.ref f))
    (hbi : ∀ (kV doc pm : Value) (an : Option Addr) (cdv ct : Value) (us : List Value), us.length = ps.length → bindArgs (PySem.W.fnOf x qual params body scope .none kV doc pm an cdv ct) ⟨us, []⟩ = pure (ps.zip us)) : FK P w K mg base cv T x n (fun _ => .bad) :=
  ⟨f, fd, ps, hm, F.kp, F.bindsN hbi, ⟨fun vs H Q E h => by
    obtain ⟨_, _, _, _, _, _, z⟩ := h
    exact z.elim, fun A outer s H args us vs Q E _ _ _ _ h => by
    obtain ⟨_, _, _, _, _, _, z⟩ := h
    exact z.elim⟩⟩
end EL

/-! E16: sorted(set(t)), len(set(t)), t a tuple or a list. -/
namespace EL
open PySem PySem.Spec PyProof.Rows L2
/-- a set as it is made -/
abbrev bareS (w : World) : Obj := ⟨.type "set", none, .set #[] 0 (.fresh 0 0 (!w.params.followText "set-order")), #[]⟩
section
variable {P : Program} {w : World} {A : Around} {E : Value → Shared → Prop} {s : Shared}
/-- set(t), t a tuple of tuples of ints -/
theorem set_of_pairs {t : Addr} {its : Array Value} (rows : List (Addr × List Int)) {Q : Value → Shared → Prop} (calm : A.handled = none) (ht : s.heap.IsTuple t its) (ei : its.toList = rows.map fun r => Value.ref r.1)
    (hr : ∀ r ∈ rows, IsT P w s.heap r.2 r.1) (few : rows.length < 64) (room : A.units + 3 < cLine)
    (fin : ∀ (h' : Heap) (tk : Nat) L es ep tb, SetTR P w h' s.heap.objs.size L es ep tb → Got rows rows.length L → (∀ b o, s.heap.get? b = some o → h'.get? b = some o) → Q (.ref s.heap.objs.size) { s with heap := h', toks := tk }) :
    wpAny (model P w) A (call (.type "set") [.ref t]) Q E s := by
  have size : its.size = rows.length := by
    have z := congrArg List.length ei
    rwa [Array.length_toList, List.length_map] at z
  obtain ⟨c0, tl0, h_mro⟩ := F.called_set.mro
  have h_made := F.called_set.made
  have h_sub := F.called_set.sub
  refine wpAny_call (codeAny_of_tree (?_ : wpAny _ _ (callAny (.type "set") _) _ _ _))
  refine wpAny_pure ⟨Code.quiet_builtin _ (by decide +kernel), codeAny_builtin F.entry_type_call ?_⟩
  rw [Around.under_plain (weight_type_call_type "set" [.ref t] []) rfl]
  have h_nt := F.called_set.notType
  have h_cc := F.called_set.canCreate
  have h_ok := F.typeCall_set_1 (.ref t)
  repeat (any_goals (first | assumption | wp_step))
  refine codeAny_mono (code_set_led1 (.ref t) (E := E) (Q₁ := fun ob s1 => ob = .ref s.heap.objs.size ∧ s1 = { s with heap := s.heap.push (bareS w) }) ⟨rfl, rfl⟩) fun r0 s0 h_r0 => ?_
  cases r0 with
  | error e => exact h_r0
  | ok f0 =>
    cases f0 with
    | ret ob =>
      obtain ⟨rfl, rfl⟩ := h_r0
      have g_set : (s.heap.push (bareS w)).get? s.heap.objs.size = some (bareS w) := Heap.get?_push_size _ rfl
      have ty_set : Shared.TypeIs { s with heap := s.heap.push (bareS w) } (.ref s.heap.objs.size) "set" := ⟨_, g_set, rfl⟩
      have h_li := F.called_set.init.lookup
      have h_bi := F.called_set.init.bind (.ref s.heap.objs.size)
      repeat (any_goals (first | assumption | wp_step))
      refine codeAny_mono (codeAny_call_builtin (R := wants (fun r s2 => r = .none ∧ ∃ h' tk L es ep tb, s2 = { s with heap := h', toks := tk } ∧ SetTR P w h' s.heap.objs.size L es ep tb ∧ Got rows rows.length L ∧ (∀ b o, s.heap.get? b = some o → h'.get? b = some o)) E)
        F.called_set.init.plain F.entry_set_init (check_set_init_1 ty_set ?_)) fun r1 s1 h_r1 => ?_
      · obtain ⟨⟨tc, td, tdt, tsl⟩, g_t, e_c, nt, e_d⟩ := ht
        dsimp only at e_c e_d
        subst e_c e_d
        have g_t1 : (s.heap.push (bareS w)).get? t = some ⟨.type "tuple", td, .seq its nt, tsl⟩ := Heap.get?_push_of_some _ g_t
        have h_s1 := F.sub_tuple_set
        have h_s2 := F.sub_tuple_frozenset
        have h_nd : (Value.type "tuple" == Value.type "dict") = false := by decide
        have is_t : (s.heap.push (bareS w)).IsTuple t its := ⟨_, g_t1, rfl, nt, rfl⟩
        unfold Builtin.«set.__init__» noKeywords Builtin.Frozenset.updateFrom
        generalize e_it : pyIter = itr
        wp_walk
        subst e_it
        refine wpAny_pyIter_tuple is_t (wpAny_bind (wpAny_runValue ?_))
        have lt_t : t < s.heap.objs.size := Heap.lt_size g_t
        have calm3 : A.in1.in1.in1.handled = none := by simp [calm]
        have sz1 : (s.heap.push (bareS w)).objs.size = s.heap.objs.size + 1 := Heap.size_push ..
        have ne_it : t ≠ (s.heap.push (bareS w)).objs.size := by
          rw [sz1]
          exact Nat.ne_of_lt (Nat.lt_succ_of_lt lt_t)
        have no_fp : s.heap.objs.size ∉ [(s.heap.push (bareS w)).objs.size, t] := fun z => by
          rcases List.mem_cons.mp z with z | z
          · rw [sz1] at z; exact absurd z (Nat.ne_of_lt (Nat.lt_succ_self _))
          · exact absurd (List.mem_singleton.mp z).symm (Nat.ne_of_lt lt_t)
        have vals : ∀ (i : Nat) (v : Value), its[i]? = some v → ∃ r, rows[i]? = some r ∧ v = .ref r.1 := fun i v hv => by
          have z : its.toList[i]? = some v := by rw [Array.getElem?_toList, hv]
          rw [ei, List.getElem?_map] at z
          cases y : rows[i]? with
          | none => rw [y] at z; cases z
          | some r => rw [y] at z; exact ⟨r, rfl, (Option.some.inj z).symm⟩
        have free : ∀ b, s.heap.objs.size ≤ b → s.heap.get? b = none := fun b hb => by
          cases y : s.heap.get? b with
          | none => rfl
          | some o => exact absurd hb (Nat.not_le_of_lt (Heap.lt_size y))
        refine set_update_tups ((Walks.tuple calm3 _ t ne_it its).toS) s.heap.objs.size no_fp rows size few vals s.heap hr (free _ (Nat.le_refl _)) (fun b hb => free b (by rw [List.mem_singleton.mp hb, sz1]; exact Nat.le_succ _)) room (its.size - 0) 0 _ (by omega) (Nat.zero_le _)
          ⟨⟨_, Heap.get?_push_size _ rfl, rfl, rfl⟩, (is_t.push _)⟩ (fun b o e => Heap.get?_push_of_some _ (Heap.get?_push_of_some _ e)) ?first ?last
        case first =>
          have g_set2 : ((s.heap.push (bareS w)).push { cls := .type "tuple_iterator", data := .fields #[.ref t, .int 0 0] }).get? s.heap.objs.size = some (bareS w) := Heap.get?_push_of_some _ g_set
          exact ⟨[], #[], 0, _, setTR_fresh g_set2, Got.zero rows⟩
        case last =>
          intro s9 L es ep tb mv g9 got kp
          obtain ⟨h9, gs9, dr9, tk9, os9⟩ := s9
          have q1 : gs9 = s.gens := mv.gens
          have q2 : dr9 = s.drawn := mv.drawn
          have q3 : os9 = s.os := mv.os
          subst q1 q2 q3
          refine (?_ : wpAny _ _ _ _ _ _)
          refine wpAny_pure (?_ : wpAny _ _ (ret Value.none) _ _ _)
          rw [size] at got
          exact wpAny_pure ⟨rfl, h9, tk9, L, es, ep, tb, rfl, g9, got, kp⟩
      · cases r1 with
        | error e => exact h_r1
        | ok f1 =>
          cases f1 with
          | ret r =>
            obtain ⟨rfl, h', tk, L, es, ep, tb, rfl, g9, got, kp⟩ := h_r1
            repeat (any_goals (first | assumption | wp_step))
            exact fin _ _ _ _ _ _ g9 got kp
          | _ => exact h_r1.elim
    | _ => exact h_r0.elim
end

/-! ### pairs of small ints, ascending -/
def codeP (p : Int × Int) : Int := p.1 * 64 + p.2
def smallP (p : Int × Int) : Bool := decide (0 ≤ p.1) && decide (p.1 < 64) && decide (0 ≤ p.2) && decide (p.2 < 64)
theorem smallP_iff (p : Int × Int) : smallP p = true ↔ (0 ≤ p.1 ∧ p.1 < 64) ∧ 0 ≤ p.2 ∧ p.2 < 64 := by
  unfold smallP
  simp only [Bool.and_eq_true, decide_eq_true_eq]
  exact ⟨fun h => ⟨h.1.1, h.1.2, h.2⟩, fun h => ⟨⟨h.1, h.2.1⟩, h.2.2⟩⟩
theorem codeP_inj {p q : Int × Int} (hp : smallP p = true) (hq : smallP q = true) (e : codeP p = codeP q) : p = q := by
  obtain ⟨⟨a1, a2⟩, a3, a4⟩ := (smallP_iff p).mp hp
  obtain ⟨⟨b1, b2⟩, b3, b4⟩ := (smallP_iff q).mp hq
  unfold codeP at e
  refine Prod.ext ?_ ?_ <;> omega
abbrev Asc (l : List (Int × Int)) : Prop := l.Pairwise fun p q => codeP p < codeP q
theorem asc_same : ∀ {l m : List (Int × Int)}, Asc l → Asc m → (∀ p, p ∈ l ↔ p ∈ m) → l = m
  | [], [], _, _, _ => rfl
  | [], q :: m, _, _, h => absurd ((h q).mpr List.mem_cons_self) (by simp)
  | p :: l, [], _, _, h => absurd ((h p).mp List.mem_cons_self) (by simp)
  | p :: l, q :: m, a, b, h => by
    rw [Asc, List.pairwise_cons] at a b
    have e : p = q := by
      rcases List.mem_cons.mp ((h p).mp List.mem_cons_self) with z | z
      · exact z
      · rcases List.mem_cons.mp ((h q).mpr List.mem_cons_self) with y | y
        · exact y.symm
        · have h1 := b.1 p z
          have h2 := a.1 q y
          omega
    subst e
    have nl : ∀ {r}, r ∈ l → r ≠ p := fun {r} hr z => by subst z; have := a.1 r hr; omega
    have nm : ∀ {r}, r ∈ m → r ≠ p := fun {r} hr z => by subst z; have := b.1 r hr; omega
    rw [asc_same a.2 b.2 fun r => ⟨fun z => ((List.mem_cons.mp ((h r).mp (List.mem_cons_of_mem _ z))).resolve_left (nl z)), fun z => ((List.mem_cons.mp ((h r).mpr (List.mem_cons_of_mem _ z))).resolve_left (nm z))⟩]
def insP (p : Int × Int) : List (Int × Int) → List (Int × Int)
  | [] => [p]
  | q :: r => if codeP p < codeP q then p :: q :: r else if codeP q < codeP p then q :: insP p r else q :: r
def sortP (l : List (Int × Int)) : List (Int × Int) := l.foldr insP []
theorem insP_mem {p : Int × Int} (hp : smallP p = true) : ∀ {l : List (Int × Int)}, (∀ q ∈ l, smallP q = true) → ∀ x, x ∈ insP p l ↔ x = p ∨ x ∈ l
  | [], _, x => by simp [insP]
  | q :: r, h, x => by
    unfold insP
    split
    · simp
    · split
      · rw [List.mem_cons, insP_mem hp (fun y hy => h y (List.mem_cons_of_mem _ hy)), List.mem_cons]
        exact ⟨fun z => z.elim (fun z => .inr (.inl z)) fun z => z.elim .inl fun z => .inr (.inr z), fun z => z.elim (fun z => .inr (.inl z)) fun z => z.elim .inl fun z => .inr (.inr z)⟩
      · have e : p = q := codeP_inj hp (h q List.mem_cons_self) (by omega)
        subst e
        exact ⟨.inr, fun z => z.elim (fun z => by rw [z]; exact List.mem_cons_self) id⟩
theorem insP_asc {p : Int × Int} (hp : smallP p = true) : ∀ {l : List (Int × Int)}, (∀ q ∈ l, smallP q = true) → Asc l → Asc (insP p l)
  | [], _, _ => List.pairwise_singleton _ _
  | q :: r, h, a => by
    unfold insP
    rw [Asc, List.pairwise_cons] at a
    split
    · rename_i h1
      refine List.pairwise_cons.mpr ⟨fun x hx => ?_, List.pairwise_cons.mpr a⟩
      rcases List.mem_cons.mp hx with z | z
      · rw [z]; exact h1
      · have := a.1 x z; omega
    · split
      · rename_i h1
        have hr : ∀ y ∈ r, smallP y = true := fun y hy => h y (List.mem_cons_of_mem _ hy)
        refine List.pairwise_cons.mpr ⟨fun x hx => ?_, insP_asc hp hr a.2⟩
        rcases (insP_mem hp hr x).mp hx with z | z
        · rw [z]; exact h1
        · exact a.1 x z
      · exact List.pairwise_cons.mpr a
theorem sortP_spec : ∀ {l : List (Int × Int)}, (∀ q ∈ l, smallP q = true) → Asc (sortP l) ∧ ∀ x, x ∈ sortP l ↔ x ∈ l
  | [], _ => ⟨.nil, fun x => Iff.rfl⟩
  | p :: l, h => by
    obtain ⟨h1, h2⟩ := sortP_spec (l := l) fun q hq => h q (List.mem_cons_of_mem _ hq)
    have h3 : ∀ q ∈ sortP l, smallP q = true := fun q hq => h q (List.mem_cons_of_mem _ ((h2 q).mp hq))
    refine ⟨insP_asc (h p List.mem_cons_self) h3 h1, fun x => ?_⟩
    show x ∈ insP p (sortP l) ↔ _
    rw [insP_mem (h p List.mem_cons_self) h3, h2, List.mem_cons]
/-- a value as pairs of small ints -/
def pairOf : D → Option (Int × Int)
  | .tup [.int i, .int j] => if smallP (i, j) = true then some (i, j) else none
  | _ => none
def pairsOf : List D → Option (List (Int × Int))
  | [] => some []
  | d :: ds => (pairOf d).bind fun p => (pairsOf ds).map (p :: ·)
def pairD (p : Int × Int) : D := .tup [.int p.1, .int p.2]
theorem pairOf_some {d : D} {p : Int × Int} (h : pairOf d = some p) : d = pairD p ∧ smallP p = true := by
  unfold pairOf at h
  split at h
  · split at h
    · rename_i hs; cases h; exact ⟨rfl, hs⟩
    · cases h
  · cases h
theorem pairsOf_some : ∀ {ds : List D} {ps : List (Int × Int)}, pairsOf ds = some ps → ds = ps.map pairD ∧ ∀ p ∈ ps, smallP p = true
  | [], ps, h => by cases h; exact ⟨rfl, fun _ z => nomatch z⟩
  | d :: ds, ps, h => by
    unfold pairsOf at h
    cases q : pairOf d with
    | none => rw [q] at h; cases h
    | some p =>
      rw [q, Option.bind_some] at h
      cases q2 : pairsOf ds with
      | none => rw [q2] at h; cases h
      | some ps2 =>
        rw [q2] at h
        cases h
        obtain ⟨e1, e2⟩ := pairOf_some q
        obtain ⟨e3, e4⟩ := pairsOf_some q2
        refine ⟨by rw [e1, e3]; rfl, fun x hx => ?_⟩
        rcases List.mem_cons.mp hx with z | z
        · rw [z]; exact e2
        · exact e4 x z
theorem pairsOf_map : ∀ {ps : List (Int × Int)}, (∀ p ∈ ps, smallP p = true) → pairsOf (ps.map pairD) = some ps
  | [], _ => rfl
  | p :: ps, h => by
    have e : pairOf (pairD p) = some p := by
      unfold pairOf pairD
      simp [h p List.mem_cons_self]
    show (pairOf (pairD p)).bind _ = _
    rw [e, Option.bind_some, pairsOf_map fun q hq => h q (List.mem_cons_of_mem _ hq)]
    rfl
def seqOf : D → Option (List D)
  | .tup xs => some xs
  | .lst xs => some xs
  | _ => none
def sortSetD (d : D) : Option D := (seqOf d).bind fun xs => (pairsOf xs).bind fun ps => if ps.length < 64 then some (.lst ((sortP ps).map pairD)) else none
section
variable {X : Cx} {G : Gr} {W : WX}
/-- the addresses of pairs -/
theorem rpa_pairs {O : AS} {H : Hp} : ∀ {us : List V} {ps : List (Int × Int)}, RpA G.K G.cv O H us (ps.map pairD) → ∃ rows : List (Addr × List Int), us = rows.map (fun r => V.ref r.1) ∧ rows.map (·.2) = ps.map (fun p => [p.1, p.2]) ∧ ∀ r ∈ rows, SqT G.K H r.1 (r.2.map V.int)
  | us, [], r => by cases r; exact ⟨[], rfl, rfl, fun _ z => nomatch z⟩
  | us, p :: ps, r => by
    rw [List.map_cons] at r
    cases r with
    | cons h r =>
      obtain ⟨rows, h1, h2, h3⟩ := rpa_pairs r
      have h : Rp G.K G.cv O H _ (.tup [.int p.1, .int p.2]) := h
      cases h with
      | @tup a xs _ ht hr =>
        have e : xs = [V.int p.1, V.int p.2] := rpa_ints (G := G) (O := O) (H := H) (ns := [p.1, p.2]) hr
        subst e
        refine ⟨(a, [p.1, p.2]) :: rows, by rw [h1]; rfl, by rw [List.map_cons, h2]; rfl, fun r hr => ?_⟩
        rcases List.mem_cons.mp hr with z | z
        · rw [z]; exact ht
        · exact h3 r z
def rSetOfA (K : PySem.W.Frag) (P : Program) (w : World) : List V → Hp → VK → Prop := fun xs H Q => ∃ (l : Addr) (ks : List (Addr × List Int)), xs = [V.ref l] ∧ (SqL K H l (ks.map fun p => V.ref p.1) ∨ SqT K H l (ks.map fun p => V.ref p.1)) ∧ (∀ p ∈ ks, SqT K H p.1 (p.2.map V.int)) ∧ ks.length < 64 ∧
  ∀ a L, H a = none → (∀ p ∈ L, p ∈ ks) → (∀ p ∈ ks, p.2 ∈ L.map (·.2)) → Q (.ref a) (upd H a (SetTO P w a L))
theorem cr_setOfA (hc : X.calm = true) (hu : X.A.units + 64 < cLine) : CallR X (.type "set") (rSetOfA X.K X.prog X.w) := by
  intro pins s σ H xs us Q I r h
  obtain ⟨l, ks, rfl, hl | hl, hk, hf, q⟩ := h
  · exact cr_setOfT hc hu pins s σ H _ us Q I r ⟨l, ks, rfl, hl, hk, hf, q⟩
  · rw [Vals.ref1 r]
    obtain ⟨its, rv, pl, _⟩ := I.tuple hl
    have hn : H s.heap.objs.size = none := I.hok.fresh (Nat.le_refl _)
    refine set_of_pairs (P := X.prog) (w := X.w) ks (I.ok.hd hc) pl (by simpa using refs_of_vals rv) (fun p hp => I.isT (hk p hp)) hf (by omega) fun h' tk L es ep t R g k => ?_
    refine ⟨.ref s.heap.objs.size, upd H s.heap.objs.size (SetTO X.prog X.w s.heap.objs.size L), I.laid (t' := tk) k (Nat.le_refl _) (setTO_new R.t0), rfl, q _ L hn (fun p hp => List.mem_of_mem_take (g.sub p hp)) fun p hp => ?_⟩
    exact g.all p (by rw [List.take_length]; exact hp)
def eSortedSet (f : Env → Out Rv) : Env → Out Rv := fun ρ => (f ρ).bind fun r ρ1 => Out.of (((deref r ρ1).bind sortSetD).map Rv.val) ρ1
theorem rows_pairs {rows : List (Addr × List Int)} {ps : List (Int × Int)} (h : rows.map (·.2) = ps.map fun p => [p.1, p.2]) (hs : ∀ p ∈ ps, smallP p = true) {r : Addr × List Int} (hr : r ∈ rows) : ∃ p ∈ ps, r.2 = [p.1, p.2] ∧ smallP p = true := by
  have h1 : r.2 ∈ ps.map fun p => [p.1, p.2] := by rw [← h]; exact List.mem_map.mpr ⟨r, hr, rfl⟩
  obtain ⟨p, hp, e⟩ := List.mem_map.mp h1
  exact ⟨p, hp, e.symm, hs p hp⟩
def toP2 (l : List Int) : Int × Int := match l with
  | [i, j] => (i, j)
  | _ => (0, 0)
theorem sorted_rows {rows L : List (Addr × List Int)} {ps : List (Int × Int)} (h : rows.map (·.2) = ps.map fun p => [p.1, p.2]) (hs : ∀ p ∈ ps, smallP p = true) (h1 : ∀ p ∈ L, p ∈ rows) (h2 : ∀ p ∈ rows, p.2 ∈ L.map (·.2)) (hn : (L.map (·.2)).Nodup)
    (ha : L.Pairwise fun q r => TS.code 64 q.2 ≤ TS.code 64 r.2) : L.map (·.2) = (sortP ps).map fun p => [p.1, p.2] := by
  have el : ∀ r ∈ L, ∃ p ∈ ps, r.2 = [p.1, p.2] ∧ smallP p = true := fun r hr => rows_pairs h hs (h1 r hr)
  have e1 : L.map (·.2) = (L.map fun r => toP2 r.2).map fun p => [p.1, p.2] := by
    rw [List.map_map]
    refine List.map_congr_left fun r hr => ?_
    obtain ⟨p, _, e, _⟩ := el r hr
    show r.2 = _
    rw [Function.comp_apply, e]
    rfl
  rw [e1]
  congr 1
  obtain ⟨s1, s2⟩ := sortP_spec hs
  refine asc_same ?_ s1 fun p => ?_
  · rw [Asc, List.pairwise_map]
    have hn2 : L.Pairwise fun q r => q.2 ≠ r.2 := by rw [List.Nodup, List.pairwise_map] at hn; exact hn
    refine (List.pairwise_iff_getElem.mpr fun i j hi hj hij => ?_)
    have a1 := List.pairwise_iff_getElem.mp ha i j hi hj hij
    have a2 := List.pairwise_iff_getElem.mp hn2 i j hi hj hij
    obtain ⟨p, _, e, hp⟩ := el _ (List.getElem_mem hi)
    obtain ⟨p', _, e', hp'⟩ := el _ (List.getElem_mem hj)
    rw [e, e'] at a1 a2 ⊢
    rw [code_pair, code_pair] at a1
    show codeP p < codeP p'
    have ne : codeP p ≠ codeP p' := fun z => a2 (by rw [codeP_inj hp hp' z])
    have le : codeP p ≤ codeP p' := a1
    omega
  · rw [s2]
    constructor
    · intro hp
      obtain ⟨r, hr, e⟩ := List.mem_map.mp hp
      obtain ⟨p', hp', e', _⟩ := el r hr
      rw [e'] at e
      have : p' = p := e
      rw [← this]
      exact hp'
    · intro hp
      have hm : [p.1, p.2] ∈ rows.map (·.2) := by rw [h]; exact List.mem_map.mpr ⟨p, hp, rfl⟩
      obtain ⟨r, hr, e⟩ := List.mem_map.mp hm
      obtain ⟨r', hr', e'⟩ := List.mem_map.mp (h2 r hr)
      refine List.mem_map.mpr ⟨r', hr', ?_⟩
      rw [e', e]
      rfl
theorem rows_rpa {O : AS} {H : Hp} : ∀ {L : List (Addr × List Int)} {ps : List (Int × Int)}, (∀ r ∈ L, SqT G.K H r.1 (r.2.map V.int)) → L.map (·.2) = ps.map (fun p => [p.1, p.2]) → RpA G.K G.cv O H (L.map fun r => V.ref r.1) (ps.map pairD)
  | [], [], _, _ => .nil
  | [], _ :: _, _, e => by cases e
  | _ :: _, [], _, e => by cases e
  | r :: L, p :: ps, h, e => by
    rw [List.map_cons, List.map_cons] at e
    injection e with e1 e2
    refine .cons ?_ (rows_rpa (fun x hx => h x (List.mem_cons_of_mem _ hx)) e2)
    have h1 := h r List.mem_cons_self
    rw [e1] at h1
    exact .tup h1 (.cons (.int _) (.cons (.int _) .nil))
theorem ev_sortedSet {a : Expr} {f : Env → Out Rv} {k : Nat} {p p2 q pos : Pos} (hg : Gl X "sorted") (hm : X.mg "sorted" = none) (hg2 : Gl X "set") (hm2 : X.mg "set" = none) (hr : Room k X.A) (ha : Ev X G W a f) (hc : X.calm = true := by rfl) (hK : X.K = G.K := by rfl)
    (na : starEach [a] X.env = (false, eval a X.env) :: starEach [] X.env := by rfl) (nb : starEach [.Call (.Name "set" p2) [a] [] q] X.env = (false, eval (.Call (.Name "set" p2) [a] [] q) X.env) :: starEach [] X.env := by rfl) :
    Ev X G W (.Call (.Name "sorted" p) [.Call (.Name "set" p2) [a] [] q] [] pos) (eSortedSet f) :=
  PEw_ (pe_callB (cr_sortedT hc) hg hm (by decide +kernel) (pa_cons (pe_callTy (cr_setOfA hc hr.units) hg2 hm2 (by decide +kernel) (pa_cons ha pa_nil na) (by decide) (by decide) na rfl) pa_nil nb) (by decide) (by decide) nb rfl) fun σ H Q ⟨O, ρ, E, a⟩ => ⟨O, ρ, E, by
    refine ans_in (g := fun r ρ1 => Out.of (((deref r ρ1).bind sortSetD).map Rv.val) ρ1) a fun r ρ1 v H1 E1 e1 r1 a1 => ?_
    obtain ⟨z, hz, q1⟩ := ans_of a1
    cases h1 : deref r ρ1 with
    | none => rw [h1] at hz; cases hz
    | some d =>
      rw [h1, Option.bind_some] at hz
      have hrs := deref_rs E1 r1 h1
      unfold sortSetD at hz
      cases h2 : seqOf d with
      | none => rw [h2] at hz; cases hz
      | some xs =>
        rw [h2, Option.bind_some] at hz
        cases h3 : pairsOf xs with
        | none => rw [h3] at hz; cases hz
        | some ps =>
          rw [h3, Option.bind_some] at hz
          split at hz
          · rename_i hl
            cases hz
            obtain ⟨ex, hs⟩ := pairsOf_some h3
            have hsq : ∃ l us, v = .ref l ∧ (SqL G.K H1 l us ∨ SqT G.K H1 l us) ∧ RpA G.K G.cv O H1 us xs := by
              unfold seqOf at h2
              split at h2
              · cases h2; obtain ⟨a, us, k1, k2, k3⟩ := rs_tup hrs; exact ⟨a, us, k1, .inr k2, k3⟩
              · cases h2; obtain ⟨a, us, k1, k2, k3⟩ := hrs; exact ⟨a, us, k1, .inl k2, k3⟩
              · cases h2
            obtain ⟨l, us, rfl, k2, k3⟩ := hsq
            rw [ex] at k3
            obtain ⟨rows, g1, g2, g3⟩ := rpa_pairs k3
            have len : rows.length = ps.length := by have := congrArg List.length g2; simpa using this
            refine ⟨l, rows, rfl, by rw [hK, ← g1]; exact k2, fun r hr => by rw [hK]; exact g3 r hr, by rw [len]; exact hl, fun st L hst m1 m2 => ?_⟩
            have up : ∀ {b xs}, SqT G.K H1 b xs → SqT G.K (upd H1 st (SetTO X.prog X.w st L)) b xs := fun h => SqT.ex (O := O) (EX.new hst) h
            refine ⟨st, L, 2, 64, rfl, upd_same, fun r hr => by rw [hK]; exact up (g3 r (m1 r hr)), by decide, fun r hr => ?_, fun L' pl pm nd _ pw hpl => ?_⟩
            · obtain ⟨pp, _, e, hp⟩ := rows_pairs g2 hs (m1 r hr)
              obtain ⟨⟨b1, b2⟩, b3, b4⟩ := (smallP_iff pp).mp hp
              rw [e]
              refine ⟨rfl, fun m hm => ?_⟩
              have hm : m = pp.1 ∨ m = pp.2 := by simpa using hm
              rcases hm with z | z <;> rw [z]
              · exact ⟨b1, b2⟩
              · exact ⟨b3, b4⟩
            · have e := sorted_rows (L := L') g2 hs (fun r hr => m1 r (pm.mem_iff.mp hr)) (fun r hr => by
                have := m2 r hr
                obtain ⟨y, hy, ey⟩ := List.mem_map.mp this
                exact List.mem_map.mpr ⟨y, pm.mem_iff.mpr hy, ey⟩) nd pw
              have hrp : RpA G.K G.cv O (upd H1 st (SetTO X.prog X.w st L)) (L'.map fun r => V.ref r.1) ((sortP ps).map pairD) := rows_rpa (fun r hr => up (g3 r (m1 r (pm.mem_iff.mp hr)))) e
              have E2 := E1.new (o := SetTO X.prog X.w st L) hst
              exact ans_ok (R1 := RvR) q1 (E2.new hpl) ((EX.new hst).trans (EX.new hpl)) (rp_newL E2.dom hpl hrp)
          · cases hz⟩
end
end EL

/-! E17: while an exception is handled: iterators' ends, unpacking, blocks. -/
namespace EL
open PySem PySem.Spec PyProof.Rows L2 HotX

section
variable {prog : Program} {w : World} {A : Around} {E : Value → Shared → Prop} {s : Shared}
theorem hot_keep {x : Addr} {h h' : Heap} (hot : HotAt A x h) (k : ∀ o, h.get? x = some o → h'.get? x = some o) : HotAt A x h' := by
  obtain ⟨h1, o, vs, h2, h3, h4⟩ := hot
  exact ⟨h1, o, vs, k o h2, h3, h4⟩
theorem hot_ne {x b : Addr} {h : Heap} {ob : Obj} (hot : HotAt A x h) (hb : h.get? b = some ob) (hn : ∀ vs, ob.data = .fields vs → vs[2]? ≠ some .none) : b ≠ x := fun e => by
  obtain ⟨_, o, vs, h2, h3, h4⟩ := hot
  rw [e, h2] at hb
  cases hb
  exact hn vs h3 h4
/-- StopIteration is made and raised -/
theorem stop_hot {α : Type} {x : Addr} {Q : α → Shared → Prop} (hot : HotAt A x s.heap)
    (h : ∀ h' e, (∀ b o, s.heap.get? b = some o → h'.get? b = some o) → (∃ o, h'.get? e = some o ∧ o.cls = .type "StopIteration") → E (.ref e) { s with heap := h' }) :
    wpAny (model prog w) A (newExc (.type "StopIteration") [] >>= fun e => (raiseNew e : Sem α)) Q E s := by
  refine wpAny_bind ?_
  simp only [newExc, newTuple]
  refine wpAny_bind (wpAny_newObj_type ?_ (by size_fits))
  refine wpAny_bind (m := firstArgMember _ _) (wpAny_of_eq (a := Value.none) (by first | rfl | (simp only [firstArgMember]; rfl)) ?_)
  refine wpAny_newObj_type ?_ (by size_fits)
  obtain ⟨_, o1, _, g1, _⟩ := id hot
  refine raiseNew_hot (x1 := x) (hot_keep hot fun o e => Heap.get?_push_of_some _ (Heap.get?_push_of_some _ e)) (Nat.ne_of_lt (Heap.lt_size (Heap.get?_push_of_some _ g1))) (Heap.get?_push_size _ rfl) rfl (by first | (simp; done) | (simp; omega) | (simp only [Array.size_append]; simp; omega)) ?_
  refine h _ _ (fun b o e => ?_) ⟨_, Heap.get?_update_self _ (Heap.get?_push_size _ rfl) rfl, rfl⟩
  rw [Heap.get?_update_other _ _ (Nat.ne_of_gt (Heap.lt_size (Heap.get?_push_of_some _ e)))]
  exact Heap.get?_push_of_some _ (Heap.get?_push_of_some _ e)
/-- a list's iterator at its end, within zip -/
theorem nextOf_end_hot {x it l : Addr} {i : Nat} {items : Array Value} {Q : Value → Shared → Prop} (hot : HotAt A x s.heap) (hit : s.heap.IsListIter it l i) (hl : s.heap.IsList l items) (hx : items[i]? = none)
    (hE : ∀ h' e, Heap.ExtBut it s.heap h' → (∃ o, h'.get? e = some o ∧ o.cls = .type "StopIteration") → E (.ref e) { s with heap := h' }) : wpAny (model prog w) A (Builtin.SmallTypes.nextOf (.ref it)) Q E s := by
  obtain ⟨oi, g_i, c_i, d_i⟩ := id hit
  obtain ⟨ol, g_l, _, nl, d_l⟩ := hl
  have ne : it ≠ x := hot_ne hot g_i fun vs z y => by
    rw [d_i] at z
    cases z
    simp at y
  unfold Builtin.SmallTypes.nextOf
  refine wpAny_bind (wpAny_callSpecial?_slot (name := Str.ofString "__next__") hit.typeIs slot_listiter_next (wpAny_call_entry slot_listiter_next hit.typeIs entry_listiter_next ?_ (args_listiter_next _)))
  show wpAny _ _ (field (.ref it) 0 >>= _) _ _ s
  refine wpAny_bind (wpAny_field g_i d_i (x := .ref l) rfl ?_)
  show wpAny _ _ (if (Value.ref l == Value.none) = true then _ else _) _ _ s
  rw [if_neg (fun z : (Value.ref l == Value.none) = true => nomatch z)]
  show wpAny _ _ (field (.ref it) 1 >>= _) _ _ s
  refine wpAny_bind (wpAny_field g_i d_i (x := .int i 0) rfl ?_)
  show wpAny _ _ (seqItems? (.ref l) >>= _) _ _ s
  refine wpAny_bind (wpAny_seqItems g_l d_l ?_)
  simp only [Int.toNat_natCast, hx]
  refine wpAny_bind (wpAny_rule (wpAny_bind (wpAny_setField g_i d_i (by simp) ?_)))
  show wpAny _ _ (newExc (.type "StopIteration") [] >>= _) _ _ _
  refine stop_hot (x := x) (hot_keep hot fun o e => ?_) fun h' e k he => hE h' e (fun b o hb q => k b o ?_) he
  · exact (Heap.get?_update_other _ _ (by exact ne)).trans e
  · exact (Heap.get?_update_other _ _ (Ne.symm hb)).trans q
/-- a tuple's iterator at its end -/
theorem next_tup_end_hot {x it t : Addr} {i : Nat} {items : Array Value} {Q : Option Value → Shared → Prop} (hot : HotAt A x s.heap) (hit : IsTupIter s.heap it t i) (ht : IsTup s.heap t items) (hx : items[i]? = none)
    (hQ : ∀ h', Heap.ExtBut it s.heap h' → Q none { s with heap := h' }) : wpAny (model prog w) A (pyNext (.ref it)) Q E s := by
  obtain ⟨oi, g_i, c_i, d_i⟩ := id hit
  obtain ⟨ol, g_l, _, nl, d_l⟩ := ht
  have ne : it ≠ x := hot_ne hot g_i fun vs z y => by
    rw [d_i] at z
    cases z
    simp at y
  unfold pyNext
  refine wpAny_bind (wpAny_attempt (wpAny_callSpecial?_slot (name := Str.ofString "__next__") hit.typeIs slot_tupleiter_next (wpAny_call_entry slot_tupleiter_next hit.typeIs entry_tupleiter_next ?_ (args_tupleiter_next _))))
  show wpAny _ _ (field (.ref it) 0 >>= _) _ _ s
  refine wpAny_bind (wpAny_field g_i d_i (x := .ref t) rfl ?_)
  show wpAny _ _ (if (Value.ref t == Value.none) = true then _ else _) _ _ s
  rw [if_neg (fun z : (Value.ref t == Value.none) = true => nomatch z)]
  show wpAny _ _ (field (.ref it) 1 >>= _) _ _ s
  refine wpAny_bind (wpAny_field g_i d_i (x := .int i 0) rfl ?_)
  show wpAny _ _ (seqItems? (.ref t) >>= _) _ _ s
  refine wpAny_bind (wpAny_seqItems g_l d_l ?_)
  simp only [Int.toNat_natCast, hx]
  refine wpAny_bind (wpAny_rule (wpAny_bind (wpAny_setField g_i d_i (by simp) ?_)))
  show wpAny _ _ (newExc (.type "StopIteration") [] >>= _) _ _ _
  refine stop_hot (x := x) (hot_keep hot fun o e => ?_) fun h' e k he => ?_
  · exact (Heap.get?_update_other _ _ (by exact ne)).trans e
  · obtain ⟨oe, g_e, c_e⟩ := he
    refine wpAny_bind (wpAny_isInstance (T := "StopIteration") (b := true) ⟨oe, g_e, c_e⟩ isSubtype_stop ?_)
    refine wpAny_pure (hQ _ fun b o hb q => k b o ?_)
    exact (Heap.get?_update_other _ _ (Ne.symm hb)).trans q
/-- a, b, .. = t -/
theorem unpack_hot {x t : Addr} {items : Array Value} {targets : List (Bool × (Value → Sem Unit))} {Q : Unit → Shared → Prop} (hot : HotAt A x s.heap) (ht : IsTup s.heap t items) (hn : targets.length = items.size) (hstar : targets.findIdx? (·.1) = none)
    (h : ∀ h', Heap.ExtBut s.heap.objs.size s.heap h' → wpAny (model prog w) A (assignInOrder (targets.map (·.2)) items.toList) Q E { s with heap := h' }) : wpAny (model prog w) A (unpack (.ref t) targets) Q E s := by
  have nt : t ≠ s.heap.objs.size := by
    obtain ⟨o, g, _⟩ := ht
    exact Nat.ne_of_lt (Heap.lt_size g)
  have nx : x ≠ s.heap.objs.size := by
    obtain ⟨_, o, _, g, _⟩ := hot
    exact Nat.ne_of_lt (Heap.lt_size g)
  unfold unpack
  rw [hn, hstar]
  refine wpAny_bind (wpAny_holding ?_)
  unfold unpackItems
  refine wpAny_bind ?_
  unfold notIterableAtAll
  refine wpAny_bind (wpAny_specialOf ht.typeIs slot_tuple_iter.lookup (wpAny_pure ?_))
  simp only [Bool.false_eq_true, if_false]
  refine wpAny_bind (wpAny_holding (iter_tuple ht ?_))
  refine wpAny_bind (wpAny_holding (draw_tuple nt items.size 0 _ _ ⟨_, Heap.get?_push_size _ rfl, rfl, rfl⟩ (ht.push _) (by omega) fun h₁ hit₁ hs₁ => ?_))
  rw [List.drop_zero, List.take_of_length_le (show items.toList.length ≤ items.size by simp), if_neg (by simp)]
  have ht₁ : IsTup h₁ t items := (ht.push _).extBut hs₁.extBut nt
  have hot₁ : HotAt A x h₁ := hot_keep hot fun o e => hs₁.extBut x o nx (Heap.get?_push_of_some _ e)
  refine wpAny_bind (wpAny_holding (next_tup_end_hot hot₁ hit₁ ht₁ (by simp) fun h₂ he₂ => ?_))
  simp only [Option.isSome_none, Bool.false_eq_true, if_false]
  exact wpAny_pure (h h₂ fun b o hb e => he₂ b o hb (hs₁.extBut b o hb (Heap.get?_push_of_some _ e)))
/-- zip of two lists at its end -/
theorem zip_end_hot {x z TI TO i1 i2 l1 l2 : Addr} {k1 k2 : Nat} {xs ys : Array Value} {a b : Value} {Q : Option Value → Shared → Prop} (hot : HotAt A x s.heap) (D : ZipApart z TI TO i1 i2 l1 l2) (hz : IsZip s.heap z TI TO .none) (hTI : IsPair s.heap TI (.ref i1) (.ref i2)) (hTO : IsPair s.heap TO a b)
    (h1 : s.heap.IsListIter i1 l1 k1) (h2 : s.heap.IsListIter i2 l2 k2) (hl1 : s.heap.IsList l1 xs) (hl2 : s.heap.IsList l2 ys) (hend : xs[k1]? = none ∨ ys[k2]? = none)
    (hQ : ∀ h', (∀ c o, c ≠ z → c ≠ TO → c ≠ i1 → c ≠ i2 → s.heap.get? c = some o → h'.get? c = some o) → Q none { s with heap := h' }) : wpAny (model prog w) A (pyNext (.ref z)) Q E s := by
  have nz : z ≠ x := hot_ne hot hz fun vs q y => by
    cases q
    simp at y
  have nTO : TO ≠ x := hot_ne hot hTO fun vs q y => by cases q
  have ni1 : i1 ≠ x := by
    obtain ⟨o, g, _, d⟩ := id h1
    exact hot_ne hot g fun vs q y => by rw [d] at q; cases q; simp at y
  unfold pyNext
  refine wpAny_bind (wpAny_attempt (wpAny_callSpecial?_slot (name := Str.ofString "__next__") (⟨_, hz, rfl⟩ : s.TypeIs (.ref z) "zip") F.slot_zip_next (wpAny_call_entry F.slot_zip_next (⟨_, hz, rfl⟩ : s.TypeIs (.ref z) "zip") F.entry_zip_next ?_ (F.args_zip_next_1 _))))
  have last : ∀ h' e, (∀ c o, c ≠ z → c ≠ TO → c ≠ i1 → c ≠ i2 → s.heap.get? c = some o → h'.get? c = some o) → (∃ o, h'.get? e = some o ∧ o.cls = .type "StopIteration") →
      wpAny (model prog w) A (do if ← isInstance (.ref e) (.type "StopIteration") then pure none else throw (.ref e)) Q E { s with heap := h' } := fun h' e hk he => by
    obtain ⟨oe, g_e, c_e⟩ := he
    exact wpAny_bind (wpAny_isInstance (T := "StopIteration") (b := true) ⟨oe, g_e, c_e⟩ isSubtype_stop (wpAny_pure (hQ _ hk)))
  show wpAny _ _ (field (.ref z) 2 >>= _) _ _ _
  refine wpAny_bind (wpAny_field hz rfl (x := .bool false) rfl ?_)
  show wpAny _ _ (field (.ref z) 3 >>= _) _ _ _
  refine wpAny_bind (wpAny_field hz rfl (x := .ref TI) rfl (wpAny_bind (wpAny_seqItems hTI rfl ?_)))
  show wpAny _ _ (Builtin.SmallTypes.ownedTupleIsFree (.ref z) >>= _) _ _ _
  refine wpAny_bind ?_
  unfold Builtin.SmallTypes.ownedTupleIsFree
  refine wpAny_bind (wpAny_field hz rfl (x := .none) rfl (wpAny_pure ?_))
  simp only [if_true]
  refine wpAny_bind (wpAny_rule (?_))
  refine wpAny_bind (wpAny_field hz rfl (x := .ref TO) rfl (wpAny_bind (wpAny_setField_rec hz (by simp) fun h₁ hz₁ hs₁ => ?_)))
  replace hz₁ : IsZip h₁ z TI TO .ellipsis := hz₁
  have hot₁ : HotAt A x h₁ := hot_keep hot fun o e => hs₁.extBut x o (Ne.symm nz) e
  refine wpAny_bind ?_
  simp only [List.zipIdx_cons, List.zipIdx_nil, List.forIn_cons, List.forIn_nil]
  refine wpAny_bind (wpAny_bind (wpAny_onRaise ?_))
  show wpAny _ _ (Builtin.SmallTypes.nextOf (.ref i1) >>= _) _ _ _
  cases hx : xs[k1]? with
  | none =>
    refine wpAny_bind (nextOf_end_hot hot₁ (h1.extBut hs₁.extBut D.i1z) (hl1.extBut hs₁.extBut D.l1z) hx fun h₂ e hs₂ he => ?_)
    obtain ⟨oe, hoe, hce⟩ := he
    have hz₂ : IsZip h₂ z TI TO .ellipsis := hs₂ _ _ D.i1z.symm hz₁
    have hez : e ≠ z := fun q => by subst q; rw [hz₂] at hoe; cases hoe; simp at hce
    refine wpAny_setField_rec hz₂ (by simp) fun h₃ _ hs₃ => last h₃ e (fun c o c1 _ c3 _ q => hs₃.extBut _ _ c1 (hs₂ _ _ c3 (hs₁.extBut _ _ c1 q))) ⟨oe, hs₃.extBut _ _ hez hoe, hce⟩
  | some v =>
    have hy : ys[k2]? = none := hend.resolve_left fun q => by rw [hx] at q; cases q
    refine wpAny_bind (wpAny_nextOf_list_item (h1.extBut hs₁.extBut D.i1z) (hl1.extBut hs₁.extBut D.l1z) hx fun h₂ h1₂ hs₂ => wpAny_pure ?_)
    have hTO₂ : IsPair h₂ TO a b := hs₂.extBut _ _ D.TOi1 (hs₁.extBut _ _ D.TOz hTO)
    refine wpAny_bind (wpAny_seqItems hTO₂ rfl (wpAny_bind (wpAny_updateSeq_pair hTO₂ fun h₃ hTO₃ hs₃ => ?_)))
    refine wpAny_bind (wpAny_letGo (wpAny_pure ?_))
    refine wpAny_bind (wpAny_bind (wpAny_onRaise ?_))
    show wpAny _ _ (Builtin.SmallTypes.nextOf (.ref i2) >>= _) _ _ _
    have hot₃ : HotAt A x h₃ := hot_keep hot₁ fun o e => hs₃.extBut x o (Ne.symm nTO) (hs₂.extBut x o (Ne.symm ni1) e)
    refine wpAny_bind (nextOf_end_hot hot₃ (((h2.extBut hs₁.extBut D.i2z).extBut hs₂.extBut D.i12.symm).extBut hs₃.extBut D.TOi2.symm) (((hl2.extBut hs₁.extBut D.l2z).extBut hs₂.extBut D.l2i1).extBut hs₃.extBut D.l2TO) hy fun h₄ e hs₄ he => ?_)
    obtain ⟨oe, hoe, hce⟩ := he
    have hz₄ : IsZip h₄ z TI TO .ellipsis := hs₄ _ _ D.i2z.symm (hs₃.extBut _ _ D.TOz.symm (hs₂.extBut _ _ D.i1z.symm hz₁))
    have hez : e ≠ z := fun q => by subst q; rw [hz₄] at hoe; cases hoe; simp at hce
    refine wpAny_setField_rec hz₄ (by simp) fun h₅ _ hs₅ => last h₅ e (fun c o c1 c2 c3 c4 q => hs₅.extBut _ _ c1 (hs₄ _ _ c4 (hs₃.extBut _ _ c2 (hs₂.extBut _ _ c3 (hs₁.extBut _ _ c1 q))))) ⟨oe, hs₅.extBut _ _ hez hoe, hce⟩
end

/-- the handled exception is met in each state of X -/
def HotE (X : Cx) : Prop := ∀ (pins : List (Addr × Obj)) (σ : L2.St) (H : Hp) (s : Shared), Inv X pins σ H s → ∃ x1, HotAt X.A x1 s.heap
structure TurnE (P : Program) (w : World) (K : PySem.W.Frag) (tg : Expr) (J : It) (fp : List Addr) (it : Addr) (tn : Nat → Heap → Prop) : Prop where
  obj : ∀ i h, tn i h → ∀ b ∈ fp, ∃ o, h.get? b = some o ∧ ∀ v, o.data ≠ .cell v
  keep : ∀ i h h', tn i h → (∀ b ∈ fp, ∀ o, h.get? b = some o → h'.get? b = some o) → tn i h'
  item : ∀ (X : Cx), X.prog = P → X.w = w → X.K = K → HotE X → ∀ (i : Nat) (pins : List (Addr × Obj)) (s : Shared) (σ : L2.St) (H : Hp) (E : Value → Shared → Prop), Inv X pins σ H s → (∀ b ∈ fp, FpOk X pins H b) → tn i s.heap → J.go i H →
    wpAny (model P w) X.A (pyNext (.ref it)) (fun r s1 => ∃ u, r = some u ∧ wpAny (model P w) X.A (letOwnedTupleGo tg (.ref it) u) (fun _ s2 => ∃ x H', Inv X pins σ H' s2 ∧ RelV x u ∧ J.yld i H x H' ∧ tn (i + 1) s2.heap ∧ ∀ b ∈ fp, H' b = none) E s1) E s
  done : ∀ (X : Cx), X.prog = P → X.w = w → X.K = K → HotE X → ∀ (i : Nat) (pins : List (Addr × Obj)) (s : Shared) (σ : L2.St) (H : Hp) (E : Value → Shared → Prop), Inv X pins σ H s → (∀ b ∈ fp, FpOk X pins H b) → tn i s.heap → J.stop i H →
    wpAny (model P w) X.A (pyNext (.ref it)) (fun r s1 => r = none ∧ Inv X pins σ H s1) E s
  self : ∀ (A : Around) (i : Nat) (s : Shared) (Q : Value → Shared → Prop) (E : Value → Shared → Prop), tn i s.heap → Q (.ref it) s → wpAny (model P w) A (pyIter (.ref it)) Q E s
theorem turn_zipE {P : Program} {w : World} {K : PySem.W.Frag} {elts : List Expr} {kk : Nat} {tpos : Pos} {a b z TI TO i1 i2 : Addr} (D : ZipApart z TI TO i1 i2 a b) :
    TurnE P w K (.Tuple elts kk tpos) (Itz K a b) [z, TI, TO, i1, i2] z (fun i h => IsZip h z TI TO .none ∧ IsPair h TI (.ref i1) (.ref i2) ∧ (∃ x y, IsPair h TO x y) ∧ h.IsListIter i1 a i ∧ h.IsListIter i2 b i) := by
  have five : ∀ {c : Addr}, c ∈ [z, TI, TO, i1, i2] → c = z ∨ c = TI ∨ c = TO ∨ c = i1 ∨ c = i2 := fun h => by simpa using h
  have T := turn_zip (P := P) (w := w) (K := K) (elts := elts) (kk := kk) (tpos := tpos) D
  refine ⟨T.obj, T.keep, ?_, ?_, T.self⟩
  · intro X e1 e2 e3 _ i pins s σ H E I hf st go
    subst e1 e2 e3
    obtain ⟨g_z, g_TI, ⟨x0, y0, g_TO⟩, t1, t2⟩ := st
    obtain ⟨xs, ys, x, y, lx, ly, ex, ey⟩ := go
    obtain ⟨us, rx, px, _⟩ := I.list lx
    obtain ⟨ws, ry, py, _⟩ := I.list ly
    obtain ⟨u, eu, ru⟩ := rx.get ex
    obtain ⟨v, ev, rv⟩ := ry.get ey
    have lt_z : z < s.heap.objs.size := Heap.lt_size g_z
    refine wpAny_pyNext_zip_item D g_z g_TI g_TO t1 t2 px.isList py.isList (x := u) (y := v) (by simpa using eu) (by simpa using ev) fun h1 z1 TO1 t11 t21 T1 sz1 k1 => ?_
    refine ⟨_, rfl, wpAny_letOwnedTupleGo_zip (s := { s with heap := h1 }) z1 fun h2 z2 sb => ?_⟩
    have T2 : h2.get? s.heap.objs.size = some { cls := .type "tuple", data := .seq #[u, v] } := (sb.2 _ (Nat.ne_of_gt lt_z)).trans T1
    have new : ObjOk X.prog X.w (upd H s.heap.objs.size (.tup [x, y])) h2 s.heap.objs.size (.tup [x, y]) := ⟨(by decide : 2 ≤ sizeLine), [u, v], .cons ru (.cons rv .nil), ⟨_, T2, rfl, _, rfl⟩⟩
    have J : Inv X pins σ (upd H s.heap.objs.size (.tup [x, y])) { s with heap := h2 } := I.turnedNew (t' := s.toks) (ch := [z, TI, TO, i1, i2])
      (fun c o hb q => (sb.2 c (fun e => hb (by simp [e]))).trans (k1 c o (fun e => hb (by simp [e])) (fun e => hb (by simp [e])) (fun e => hb (by simp [e])) (fun e => hb (by simp [e])) q)) hf (Nat.le_refl _) new
    refine ⟨.ref s.heap.objs.size, _, J, rfl, ⟨_, x, y, rfl, I.hok.fresh (Nat.le_refl _), rfl, fun l hl => by rw [I.list_inj hl lx]; exact ex, fun l hl => by rw [I.list_inj hl ly]; exact ey⟩, ⟨z2, (sb.2 _ D.TIz).trans (k1 _ _ D.TIz D.TITO D.TIi1 D.TIi2 g_TI), ⟨u, v, (sb.2 _ D.TOz).trans TO1⟩,
      t11.at fun o q => (sb.2 _ D.i1z).trans q, t21.at fun o q => (sb.2 _ D.i2z).trans q⟩, fun c hc => ?_⟩
    have lt_c : c < s.heap.objs.size := by
      obtain ⟨o1, e1, _⟩ := t1
      obtain ⟨o2, e2, _⟩ := t2
      rcases five hc with e | e | e | e | e <;> rw [e]
      · exact lt_z
      · exact Heap.lt_size g_TI
      · exact Heap.lt_size g_TO
      · exact Heap.lt_size e1
      · exact Heap.lt_size e2
    rw [upd_ne (Nat.ne_of_lt lt_c)]
    exact (hf c hc).1
  · intro X e1 e2 e3 hot i pins s σ H E I hf st stop
    subst e1 e2 e3
    obtain ⟨g_z, g_TI, ⟨x0, y0, g_TO⟩, t1, t2⟩ := st
    obtain ⟨xs, ys, lx, ly, hend⟩ := stop
    obtain ⟨us, rx, px, _⟩ := I.list lx
    obtain ⟨ws, ry, py, _⟩ := I.list ly
    obtain ⟨x1, hx⟩ := hot _ _ _ _ I
    have n1 := rx.length
    have n2 := ry.length
    refine zip_end_hot hx D g_z g_TI g_TO t1 t2 px.isList py.isList ?_ fun h1 k1 => ⟨rfl, I.turnedL (t' := s.toks) (ch := [z, TI, TO, i1, i2]) (fun c o hb q => k1 c o (fun e => hb (by simp [e])) (fun e => hb (by simp [e])) (fun e => hb (by simp [e])) (fun e => hb (by simp [e])) q) hf⟩
    rcases hend with q | q
    · exact .inl (by simp; omega)
    · exact .inr (by simp; omega)
def PIEE (X : Cx) (pins : List (Addr × Obj)) (σ : L2.St) (tg : Expr) (R : It → Hp → Prop) (itv : Value) (s2 : Shared) : Prop :=
  ∃ (it : Addr) (fp : List Addr) (tn : Nat → Heap → Prop) (J : It) (H' : Hp), itv = .ref it ∧ Inv X pins σ H' s2 ∧ TurnE X.prog X.w X.K tg J fp it tn ∧ tn 0 s2.heap ∧ (∀ b ∈ fp, FpOk X pins H' b) ∧ R J H'
structure PIhot (X : Cx) (tg iter : Expr) (wi : TI) : Prop where
  run : ∀ (pins : List (Addr × Obj)) (s : Shared) (σ : L2.St) (H : Hp) (R : It → Hp → Prop), Inv X pins σ H s → wi σ H R → wpAny (model X.prog X.w) X.A (eval iter X.env) (fun v s1 => wpAny (model X.prog X.w) X.A (pyIter v) (PIEE X pins σ tg R) X.xe s1) X.xe s
section
variable {X : Cx}
def iZipL (K : PySem.W.Frag) (ta : TA) : TI := fun σ H R => ta σ H fun vs H1 => ∃ a b xs ys, vs = [.ref a, .ref b] ∧ SqL K H1 a xs ∧ SqL K H1 b ys ∧ R (Itz K a b) H1
theorem pi_zipH {e e2 : Expr} {ta : TA} {p pos tpos : Pos} {elts : List Expr} {kk : Nat} (hg : Gl X "zip") (hm : X.mg "zip" = none) (ha : PA X [e, e2] ta) (hs : starEach [e, e2] X.env = (false, eval e X.env) :: starEach [e2] X.env := by rfl) (hpl : (backTo pos (starEach [e2] X.env)).any (·.1) = false := by rfl) :
    PIhot X (.Tuple elts kk tpos) (.Call (.Name "zip" p) [e, e2] [] pos) (iZipL X.K ta) := by
  refine ⟨fun pins s σ H R I h => ?_⟩
  refine Call_ (ld_blt I hg hm PyProof.Rows.boot_zip (PyProof.Rows.callWith_type1 (thn (ha.run pos pins s σ H _ I h) fun us s1 ⟨vs, H1, I1, r1, a, b, xs, ys, ev, lx, ly, q⟩ => ?_) hs hpl))
  subst ev
  obtain ⟨u, v, eu, ru, rv⟩ := Vals.two r1
  subst eu
  cases ru
  cases rv
  obtain ⟨us, rx, px, _⟩ := I1.list lx
  obtain ⟨ws, ry, py, _⟩ := I1.list ly
  refine call_zip_2 px.isList py.isList fun h1 g_z g_TI g_TO t1 t2 sz k1 => wpAny_pyIter_zip g_z ?_
  have J : Inv X pins σ H1 { s1 with heap := h1 } := I1.kept (t' := s1.toks) k1
  refine ⟨s1.heap.objs.size + 4, [s1.heap.objs.size + 4, s1.heap.objs.size + 2, s1.heap.objs.size + 3, s1.heap.objs.size, s1.heap.objs.size + 1], _, _, H1, rfl, J, turn_zipE (PySem.W.ktu_apart s1.heap.objs.size a b px.lt py.lt), ⟨g_z, g_TI, ⟨_, _, g_TO⟩, t1, t2⟩, fun c hc => ?_, q⟩
  have le : s1.heap.objs.size ≤ c := by
    have e : c = s1.heap.objs.size + 4 ∨ c = s1.heap.objs.size + 2 ∨ c = s1.heap.objs.size + 3 ∨ c = s1.heap.objs.size ∨ c = s1.heap.objs.size + 1 := by simpa using hc
    rcases e with e | e | e | e | e <;> rw [e]
    · exact Nat.le_add_right _ _
    · exact Nat.le_add_right _ _
    · exact Nat.le_add_right _ _
    · exact Nat.le_refl _
    · exact Nat.le_add_right _ _
  exact I1.fpOk le (I1.hok.fresh le)
theorem pg_tupH {es : List Expr} {k n : Nat} {t : TGs} {pos : Pos} (hot : HotE X) (h : PGs X es t) (hn : (assignEach es X.env).length = n := by rfl) (hst : (assignEach es X.env).findIdx? (·.1) = none := by rfl) : PG X (.Tuple es k pos) (gTup X.K n t) := by
  refine ⟨fun pins s σ H v u Q I r ⟨a, xs, ea, lx, hl, hw⟩ => ?_⟩
  subst ea
  cases r
  obtain ⟨us, rx, px, _⟩ := I.tuple lx
  obtain ⟨x1, hx⟩ := hot _ _ _ _ I
  rw [PyProof.Rows.assign_Tuple]
  refine wpAny_bind (wpAny_standAt (unpack_hot hx px (by simp [hn, ← hl, rx.length]) hst fun h1 k1 => ?_))
  exact h.run pins _ σ H xs _ Q (I.kept (t' := s.toks) fun b o e => k1 b o (Nat.ne_of_lt (Heap.lt_size e)) e) (by simpa using rx) hw
end

section
variable {X : Cx}
theorem HotC.e (c : L2H.HotC X) : HotE X := fun _ _ _ _ I => c.at I
/-- a block within, entered at s -/
theorem hot_blk {p : Addr × Obj} (hp : L2H.Hot1 X.A p) (hm : p ∈ X.pn) {pins : List (Addr × Obj)} {σ : L2.St} {H : Hp} {s : Shared} {scope : Scope} {ce : PySem.Env} {fp : List Addr} (I : Inv X pins σ H s) (hf : ∀ b ∈ fp, FpOk X pins H b) : HotE (X.blk s H scope ce fp) := fun pins' σ' H' s' J => by
  have P := I.pin p (List.mem_append_left _ hm)
  have nf : p.1 ∉ frs X.stack := fun z => (List.mem_cons.mp (I.stkSub p.1 z)).elim P.2.2.1 P.2.2.2.1
  have nfp : p.1 ∉ fp := fun z => (hf _ z).2.2.2.2.2 p (List.mem_append_left _ hm) rfl
  obtain ⟨hh, vs, e1, e2⟩ := hp
  exact ⟨p.1, hh, p.2, vs, J.base.keep p.1 p.2 P.1 P.2.1 nf nfp, e1, e2⟩
abbrev blkOf (X : Cx) (s : Shared) (H : Hp) (scope : Scope) (C : Addr) (cl : List (Str × Addr)) (fp : List Addr) : Cx := X.blk s H scope (compEnvC scope cl C X.env) fp
/-- [elt for tg in iter if ..], while an exception is handled -/
theorem pe_lcH {elt tg iter : Expr} {ifs : List Expr} {scope : Scope} {own : List (Str × Nat)} {pos : Pos} {wi : TI} {g : TG} {tt : TT} {te : TE} (hot : L2H.HotC X) (hN : X.N.Nodup) (hi : PIhot X tg iter wi) (ok : BlkOk X.N X.env.scope scope own)
    (hg : ∀ (s : Shared) (H : Hp) (C : Addr) (cl : List (Str × Addr)) (fp : List Addr), HotE (blkOf X s H scope C cl fp) → PG (blkOf X s H scope C cl fp) tg g) (ht : ∀ (s : Shared) (H : Hp) (C : Addr) (cl : List (Str × Addr)) (fp : List Addr), PTs (blkOf X s H scope C cl fp) ifs tt)
    (he : ∀ (s : Shared) (H : Hp) (C : Addr) (cl : List (Str × Addr)) (fp : List Addr), PE (blkOf X s H scope C cl fp) elt te) (hs : ∀ x, foldedSetIterable iter X.env x = pure x := by intro _; rfl) : PE X (.ListComp elt [⟨tg, iter, ifs, 0⟩] scope pos) (tLc wi g tt te (own.map (·.2))) := by
  refine ⟨fun pins s σ H Q I h => ?_⟩
  obtain ⟨px, hot1, hmem⟩ := hot
  rw [eval_ListComp]
  have caps : ∀ y ∈ scope.names, y.2 = .free → ∃ c, X.env.cells.lookup y.1 = some c := fun y hy e => (ok.free y hy e).elim (fun z => I.ok.has _ (.inl z)) fun z => I.ok.has _ (.inr z)
  refine wpAny_comprehension_free (use := none) rfl hs (closure_ok caps) ok.kind (fun y hy e => by rw [ok.uniq y hy, e]) (thn (hi.run pins s σ H _ I h) fun xv s1 hx => thn hx fun itv s2 h2 => ?_)
  obtain ⟨it, fp, tn, J, H2, rfl, I2, T, st2, f2, q⟩ := h2
  refine wpAny_newObj_type (newEnv_comp ?_) (by show 0 ≤ sizeLine; decide)
  generalize eD : s2.heap.objs.size = D
  have nD : H2 D = none := I2.hok.fresh (Nat.le_of_eq eD)
  obtain ⟨Wt, ⟨m0, w0⟩, turn⟩ := q D nD
  generalize e3 : ({ s2 with heap := s2.heap.push { cls := .type "list", data := .seq ([] : List Value).toArray } } : Shared) = s3
  have hp3 : s3.heap = s2.heap.push { cls := .type "list", data := .seq ([] : List Value).toArray } := by rw [← e3]
  have I3 : Inv X pins σ (upd H2 D (.lst [])) s3 := by
    rw [← e3]
    refine I2.laid (t' := s2.toks) (fun b o e => Heap.get?_push_of_some _ e) (Nat.le_of_eq eD) ⟨Nat.zero_le _, [], 0, .nil, ?_⟩
    rw [← eD]
    exact Heap.get?_push_size _ rfl
  have fits : ∀ b ∈ fp, FpOk X pins (upd H2 D (.lst [])) b ∧ b < s3.heap.objs.size := fun b hb => by
    obtain ⟨o, e, _⟩ := T.obj _ _ st2 b hb
    have lt := Heap.lt_size e
    refine ⟨⟨?_, (f2 b hb).2⟩, by rw [hp3, Heap.size_push]; exact Nat.lt_succ_of_lt lt⟩
    rw [upd_ne (by rw [← eD]; exact Nat.ne_of_lt lt)]
    exact (f2 b hb).1
  have st3 : tn 0 s3.heap := T.keep _ _ _ st2 fun b _ o e => by rw [hp3]; exact Heap.get?_push_of_some _ e
  have I4 := block_start I3 ok hN fits
  have ho : HotE (X.blk s3 (upd H2 D (.lst [])) scope (compEnvC scope (cellsFrom (s3.heap.objs.size + 1) scope.names (cloFrom X.env.cells scope.names [])) s3.heap.objs.size X.env) fp) := hot_blk hot1 hmem I3 fun b hb => (fits b hb).1
  have kg : PG (X.blk s3 (upd H2 D (.lst [])) scope (compEnvC scope (cellsFrom (s3.heap.objs.size + 1) scope.names (cloFrom X.env.cells scope.names [])) s3.heap.objs.size X.env) fp) tg g := hg s3 (upd H2 D (.lst [])) s3.heap.objs.size (cellsFrom (s3.heap.objs.size + 1) scope.names (cloFrom X.env.cells scope.names [])) fp ho
  have kt : PTs (X.blk s3 (upd H2 D (.lst [])) scope (compEnvC scope (cellsFrom (s3.heap.objs.size + 1) scope.names (cloFrom X.env.cells scope.names [])) s3.heap.objs.size X.env) fp) ifs tt := ht s3 (upd H2 D (.lst [])) s3.heap.objs.size (cellsFrom (s3.heap.objs.size + 1) scope.names (cloFrom X.env.cells scope.names [])) fp
  have ke : PE (X.blk s3 (upd H2 D (.lst [])) scope (compEnvC scope (cellsFrom (s3.heap.objs.size + 1) scope.names (cloFrom X.env.cells scope.names [])) s3.heap.objs.size X.env) fp) elt te := he s3 (upd H2 D (.lst [])) s3.heap.objs.size (cellsFrom (s3.heap.objs.size + 1) scope.names (cloFrom X.env.cells scope.names [])) fp
  show codeAny _ _ (.compStart (.ListComp elt [⟨tg, iter, ifs, 0⟩] scope pos) 0 (.ref it) (.ref D) (compEnvC scope (cellsFrom (s3.heap.objs.size + 1) scope.names (cloFrom X.env.cells scope.names [])) s3.heap.objs.size X.env)) (compPost (model X.prog X.w) X.A X.xe none (EP X pins σ Q) (.ref D) s3.heap.objs.size) { s3 with heap := pushCells (s3.heap.push { cls := .type "dict", data := .dict #[] }) scope.names }
  have nfp : ∀ b ∈ fp, (upd H2 D (.lst [])) b = none := fun b hb => (fits b hb).1.1
  generalize ece : compEnvC scope (cellsFrom (s3.heap.objs.size + 1) scope.names (cloFrom X.env.cells scope.names [])) s3.heap.objs.size X.env = ce at I4 ho kg kt ke ⊢
  have locC : ce.locals = s3.heap.objs.size := by subst ece; rfl
  generalize eH3 : upd H2 D (.lst []) = H3 at I3 I4 ho kg kt ke w0 nfp fits
  generalize e4 : ({ s3 with heap := pushCells (s3.heap.push { cls := .type "dict", data := .dict #[] }) scope.names } : Shared) = s4 at I4 ⊢
  have st4 : tn 0 s4.heap := T.keep _ _ _ st3 fun b _ o e => by rw [← e4]; exact pushCells_keeps _ _ _ _ (Heap.get?_push_of_some _ e)
  have stat : ∀ {σ' : L2.St} {H' : Hp} {s' : Shared}, Inv (X.blk s3 H3 scope ce fp) [] σ' H' s' → (∀ b ∈ fp, H' b = none) → ∀ b ∈ fp, FpOk (X.blk s3 H3 scope ce fp) [] H' b := fun {σ' H' s'} J' hn b hb =>
    ⟨hn b hb, (J'.ok.exf b hb).1, J'.ok.exfs b hb, .inl hb, fun x c e => (J'.ok.exf b hb).2 x c e, fun z hz => absurd (show z ∈ ([] : List (Addr × Obj)) ++ [] from hz) (by simp)⟩
  have loop : codeAny (model X.prog X.w) X.A (.compLoop (.ListComp elt [⟨tg, iter, ifs, 0⟩] scope pos) 0 (.ref it) (.ref D) ce) (compPost (model X.prog X.w) X.A X.xe none (EP X pins σ Q) (.ref D) s3.heap.objs.size) s4 := by
    refine compLoop_any (fun n s' => ∃ i H', Inv (X.blk s3 H3 scope ce fp) [] (wipe σ (own.map (·.2))) H' s' ∧ tn i s'.heap ∧ (∀ b ∈ fp, H' b = none) ∧ Wt i n H') ?_ m0 ⟨0, H3, I4, st4, nfp, w0⟩
    rintro n s5 ⟨i, H5, I5, st5, n5, w5⟩
    rcases turn i n H5 w5 with ⟨stop, qq⟩ | ⟨go, Nx, hNx, step⟩
    · refine thnF (T.done (X.blk s3 H3 scope ce fp) rfl rfl rfl ho i [] s5 _ H5 (fun _ _ => False) I5 (stat I5 n5) st5 stop) fun r s6 ⟨hr, I6⟩ => ?_
      subst hr
      have I7 : Inv X pins σ H5 s6 := I3.call' (ch := fp) I6.os I6.base I6.hok I6.bare fun b hb => ⟨(fits b hb).1.2.2.2.1, (fits b hb).1.2.1, (fits b hb).1.2.2.2.2.1, (fits b hb).1.2.2.2.2.2⟩
      have nC : H5 s3.heap.objs.size = none := by
        have z : H5 ce.locals = none := I6.free
        rwa [locC] at z
      obtain ⟨m, hn, _⟩ := I6.loc
      have hn : s6.heap.Ns ce.locals m := hn
      rw [locC] at hn
      obtain ⟨k0, k1, k2, k3, k4, k5⟩ := I3.fpOk (H' := H5) (Nat.le_refl s3.heap.objs.size) nC
      exact ⟨m, hn, fun h'' sb => ⟨.ref D, H5, I7.turned (t' := s6.toks) (fun b o hb e => (sb.2 b hb).trans e) k0 k1 k3 k4 k5, rfl, qq⟩⟩
    · refine thnF (T.item (X.blk s3 H3 scope ce fp) rfl rfl rfl ho i [] s5 _ H5 (fun _ _ => False) I5 (stat I5 n5) st5 go) fun r s6 ⟨u, hr, h6⟩ => ?_
      subst hr
      refine thnF h6 fun _ s7 ⟨x, H7, I7, r7, y7, st7, n7⟩ => ?_
      refine thnF (kg.run _ s7 _ H7 x u _ (I7.pinned (stat I7 n7) (T.obj _ _ st7)) r7 (step x H7 y7)) fun _ s8 ⟨σ8, H8, I8, hw8, q8⟩ => ?_
      refine thnF (kt.run _ s8 σ8 H8 _ I8 q8) fun b s9 ⟨H9, I9, q9⟩ => ?_
      have fin : ∀ {s' : Shared} {H' : Hp}, Inv (X.blk s3 H3 scope ce fp) ([] ++ pinsAt fp s7.heap) σ8 H' s' → Nx H' → ∃ m, m < n ∧ ∃ i H', Inv (X.blk s3 H3 scope ce fp) [] (wipe σ (own.map (·.2))) H' s' ∧ tn i s'.heap ∧ (∀ b ∈ fp, H' b = none) ∧ Wt i m H' := fun {s' H'} J' nx => by
        obtain ⟨m', hm, w'⟩ := hNx H' nx
        have pin' : ∀ b ∈ fp, ∀ o, s7.heap.get? b = some o → s'.heap.get? b = some o ∧ H' b = none := fun b hb o e => ⟨(J'.pin (b, o) (List.mem_append_right _ (List.mem_append_right _ (mem_pinsAt hb e)))).1, (J'.pin (b, o) (List.mem_append_right _ (List.mem_append_right _ (mem_pinsAt hb e)))).2.1⟩
        refine ⟨m', hm, i + 1, H', (J'.unpinned (pins := [])).weak (by rw [← hw8, wipe_length]) (fun j v e => (wipe_some (by rw [hw8]; exact e)).1), T.keep _ _ _ st7 fun b hb o e => (pin' b hb o e).1, fun b hb => ?_, w'⟩
        obtain ⟨o, e, _⟩ := T.obj _ _ st7 b hb
        exact (pin' b hb o e).2
      cases b with
      | false =>
        rw [if_neg Bool.false_ne_true] at q9 ⊢
        exact fin I9 q9
      | true =>
        rw [if_pos rfl] at q9 ⊢
        refine thnF (ke.run _ s9 σ8 H9 _ I9 q9) fun z s10 ⟨yv, H10, I10, r10, acc, hD10, hz10, nx⟩ => ?_
        exact app_ok (X := X.blk s3 H3 scope ce fp) I10 hD10 hz10 r10 fun s11 I11 => fin I11 nx
  exact codeAny_compStart_list loop (T.self X.A 0 _ _ _ st4 loop)
end
end EL

/-! E18: split, join, zip; an error's classes; a lambda handed to a def. -/
namespace EL
open PySem PySem.Spec PyProof.Rows L2 HotX
section
variable {X : Cx} {G : Gr} {W : WX}
/-! ### methods of a text -/
def eStr1 (g : D → D → Option D) (fo fe : Env → Out Rv) : Env → Out Rv := fun ρ => (fo ρ).bind fun x ρ1 => match x with
  | .val (.str a) => (fe ρ1).bind fun y ρ2 => ap2 g (.val (.str a)) y ρ2
  | _ => .bad
def StG (G : Gr) (r : V → List V → Hp → VK → Prop) (g : D → D → Option D) : Prop := ∀ (O : AS) (H : Hp) (a : Str) (y : V) (e z : D) (Q : VK), (∀ a, O.av a → H a ≠ none) → Rs G O H y e → g (.str a) e = some z → (∀ v H', (∀ b o, H b = some o → H' b = some o) → Rp G.K G.cv O H' v z → Q v H') → r (.str a) [y] H Q
theorem str1_in {r : V → List V → Hp → VK → Prop} {g : D → D → Option D} (hg : StG G r g) {fo fe : Env → Out Rv} {σ : L2.St} {H : Hp} {O : AS} {ρ : Env} {Q : VK} (E : ER G O σ H ρ) (h : ans RvR G O W σ H (eStr1 g fo fe ρ) Q) : tM1 r (tr RvR G W fo) (tr RvR G W fe) σ H Q := by
  refine ⟨O, ρ, E, ans_in (g := fun x ρ1 => match x with
    | .val (.str a) => (fe ρ1).bind fun y ρ2 => ap2 g (.val (.str a)) y ρ2
    | _ => .bad) h fun x ρ1 v H1 E1 e1 r1 a1 => ?_⟩
  split at a1
  · rename_i a
    have r1 : Rp G.K G.cv O H1 v (.str a) := r1
    cases r1
    refine ⟨⟨a, rfl⟩, O, ρ1, E1, ans_in (g := fun y ρ2 => ap2 g (.val (.str a)) y ρ2) a1 fun y ρ2 u H2 E2 e2 r2 a2 => ?_⟩
    obtain ⟨d, e, z, h1, h2, h3, a3⟩ := ap2_some a2
    cases h1
    exact hg O H2 a u e z Q E2.dom (deref_rs E2 r2 h2) h3 fun w H3 s r3 => ans_ok (R1 := RvR) a3 (E2.same s) (EX.same s) r3
  · exact a1.elim
def splitD : D → D → Option D
  | .str a, .str b => if (b.length == 0) = false ∧ a.length + 2 ≤ 16777216 then some (.lst ((Txt.split a b).map .str)) else none
  | _, _ => none
theorem strs_rpa {O : AS} {H : Hp} : ∀ ys : List Str, RpA G.K G.cv O H (ys.map V.str) (ys.map D.str)
  | [] => .nil
  | y :: ys => .cons (.str y) (strs_rpa ys)
theorem sg_split : StG G (fun x xs H Q => ∃ a b, x = .str a ∧ xs = [.str b] ∧ (b.length == 0) = false ∧ a.length + 2 ≤ sizeLine ∧ rNewStrs (Txt.split a b) H Q) splitD := fun O H a y e z Q hd hy hg q => by
  cases e with
  | str b =>
    have hg : (if (b.length == 0) = false ∧ a.length + 2 ≤ 16777216 then some (D.lst ((Txt.split a b).map .str)) else none) = some z := hg
    split at hg
    · rename_i hz
      cases hg
      rw [rs_str hy]
      exact ⟨a, b, rfl, rfl, hz.1, by rw [sizeLine_eq]; exact hz.2, fun p hp => q _ _ (upd_new hp) (rp_newL hd hp (strs_rpa _))⟩
    · cases hg
  | _ => cases hg
def strsOf : List D → Option (List Str)
  | [] => some []
  | .str x :: r => (strsOf r).map (x :: ·)
  | _ => none
theorem strsOf_some : ∀ {xs : List D} {ys : List Str}, strsOf xs = some ys → xs = ys.map D.str
  | [], ys, h => by cases h; rfl
  | d :: r, ys, h => by
    cases d with
    | str x =>
      have h : (strsOf r).map (x :: ·) = some ys := h
      cases q : strsOf r with
      | none => rw [q] at h; cases h
      | some zs => rw [q] at h; cases h; rw [strsOf_some q]; rfl
    | _ => cases h
theorem strsOf_map (ys : List Str) : strsOf (ys.map D.str) = some ys := by
  induction ys with
  | nil => rfl
  | cons y ys ih =>
    show (strsOf (ys.map D.str)).map (y :: ·) = _
    rw [ih]
    rfl
theorem rpa_strs {O : AS} {H : Hp} : ∀ {us : List V} {ys : List Str}, RpA G.K G.cv O H us (ys.map D.str) → us = ys.map V.str
  | _, [], r => by cases r; rfl
  | _, y :: ys, r => by
    rw [List.map_cons] at r
    cases r with
    | cons h r => cases h; rw [rpa_strs r]; rfl
def joinD : D → D → Option D
  | .str a, d => (seqOf d).bind fun xs => (strsOf xs).bind fun ys => if (ys.map (·.length)).sum + ys.length * a.length ≤ 16777216 then some (.str (Txt.join a ys)) else none
  | _, _ => none
theorem sg_join : StG G (fun x xs H Q => ∃ a p, ∃ ys : List Str, x = .str a ∧ xs = [.ref p] ∧ (SqL G.K H p (ys.map V.str) ∨ SqT G.K H p (ys.map V.str)) ∧ (ys.map (·.length)).sum + ys.length * a.length ≤ 16777216 ∧ Q (.str (Txt.join a ys)) H) joinD := fun O H a y e z Q hd hy hg q => by
  have hg : ((seqOf e).bind fun xs => (strsOf xs).bind fun ys => if (ys.map (·.length)).sum + ys.length * a.length ≤ 16777216 then some (.str (Txt.join a ys)) else none) = some z := hg
  cases h1 : seqOf e with
  | none => rw [h1] at hg; cases hg
  | some xs =>
    rw [h1, Option.bind_some] at hg
    cases h2 : strsOf xs with
    | none => rw [h2] at hg; cases hg
    | some ys =>
      rw [h2, Option.bind_some] at hg
      split at hg
      · rename_i hz
        cases hg
        have e2 := strsOf_some h2
        unfold seqOf at h1
        split at h1
        · cases h1
          obtain ⟨p, us, rfl, k1, k2⟩ := rs_tup hy
          rw [e2] at k2
          rw [rpa_strs k2] at k1
          exact ⟨a, p, ys, rfl, rfl, .inr k1, hz, q _ H (fun _ _ h => h) (.str _)⟩
        · cases h1
          obtain ⟨p, us, rfl, k1, k2⟩ := hy
          rw [e2] at k2
          rw [rpa_strs k2] at k1
          exact ⟨a, p, ys, rfl, rfl, .inl k1, hz, q _ H (fun _ _ h => h) (.str _)⟩
        · cases h1
      · cases hg
theorem ev_split {o e : Expr} {fo fe : Env → Out Rv} {apos pos : Pos} (ho : Ev X G W o fo) (he : Ev X G W e fe) (hs : starEach [e] X.env = [(false, eval e X.env)] := by rfl) (hbase : attributeBase o "split" X.env (eval o X.env) = eval o X.env := by rfl) (hline : (apos.endLine == pos.line) = true := by rfl) :
    Ev X G W (.Call (.Attribute o "split" apos) [e] [] pos) (eStr1 splitD fo fe) := PEw_ (pe_split ho he hs hbase hline) fun σ H Q ⟨O, ρ, E, a⟩ => str1_in sg_split E a
theorem ev_join {o e : Expr} {fo fe : Env → Out Rv} {apos pos : Pos} (ho : Ev X G W o fo) (he : Ev X G W e fe) (hK : X.K = G.K := by rfl) (hs : starEach [e] X.env = [(false, eval e X.env)] := by rfl) (hbase : attributeBase o "join" X.env (eval o X.env) = eval o X.env := by rfl) (hline : (apos.endLine == pos.line) = true := by rfl) :
    Ev X G W (.Call (.Attribute o "join" apos) [e] [] pos) (eStr1 joinD fo fe) := PEw_ (pe_join ho he hs hbase hline) fun σ H Q ⟨O, ρ, E, a⟩ => by
  rw [hK]
  exact str1_in sg_join E a
/-! ### zip -/
def zipD (xs ys : List D) : List D := (xs.zip ys).map fun p => .tup [p.1, p.2]
def zipSrc (rs : List Rv) (ρ : Env) : Option CSrc := match derefAll rs ρ with
  | some [.lst xs, .lst ys] => if (storeAll rs).isSome = true then some (.of (zipD xs ys)) else none
  | some [.tup xs, .tup ys] => some (.of (zipD xs ys))
  | _ => none
def iZip (f : Env → Out (List Rv)) : Env → Out CSrc := fun ρ => (f ρ).bind fun rs ρ1 => Out.of (zipSrc rs ρ1) ρ1
theorem zipD_get {xs ys : List D} {i : Nat} {d : D} (h : (zipD xs ys)[i]? = some d) : ∃ x y, xs[i]? = some x ∧ ys[i]? = some y ∧ d = .tup [x, y] := by
  unfold zipD at h
  rw [List.getElem?_map] at h
  cases q : (xs.zip ys)[i]? with
  | none => rw [q] at h; cases h
  | some p =>
    rw [q] at h
    cases h
    obtain ⟨h1, h2⟩ := List.getElem?_zip_eq_some.mp q
    exact ⟨p.1, p.2, h1, h2, rfl⟩
theorem zipD_len (xs ys : List D) : (zipD xs ys).length = min xs.length ys.length := by
  unfold zipD
  rw [List.length_map, List.length_zip]
section
variable {O : AS} {σ : L2.St} {H : Hp}
theorem jok_zipL {a b : Addr} {us vs : List V} {xs ys : List D} (h1 : SqF G.K O H a us) (r1 : RpA G.K G.cv O H us xs) (h2 : SqF G.K O H b vs) (r2 : RpA G.K G.cv O H vs ys) : JOk G O σ H (Itz G.K a b) (.of (zipD xs ys)) := by
  constructor
  · intro O' σ' H' ρ i d E e g _ hi hd
    obtain ⟨x, y, ex, ey, rfl⟩ := zipD_get hd
    have k1 := ((h1.gw g).ex (e.mono g.wsub)).sq
    have k2 := ((h2.gw g).ex (e.mono g.wsub)).sq
    obtain ⟨u, hu, ru⟩ := r1.get ex
    obtain ⟨v, hv, rv⟩ := r2.get ey
    refine ⟨⟨us, vs, u, v, k1, k2, hu, hv⟩, fun z H2 yl => ?_⟩
    obtain ⟨T, u', v', rfl, hT, rfl, f1, f2⟩ := yl
    have e1 := f1 us k1
    have e2 := f2 vs k2
    rw [hu] at e1
    rw [hv] at e2
    cases e1
    cases e2
    exact ⟨upd_new hT, rp_newT hT (.cons ((ru.gw g).ex (e.mono g.wsub)) (.cons ((rv.gw g).ex (e.mono g.wsub)) .nil))⟩
  · intro O' σ' H' ρ E e g _ _
    refine ⟨us, vs, ((h1.gw g).ex (e.mono g.wsub)).sq, ((h2.gw g).ex (e.mono g.wsub)).sq, ?_⟩
    show us.length ≤ (zipD xs ys).length ∨ _
    rw [zipD_len, r1.len, r2.len]
    have := Nat.min_le_left xs.length ys.length
    by_cases c : xs.length ≤ ys.length
    · exact .inl (by rw [Nat.min_eq_left c]; exact Nat.le_refl _)
    · right
      show _ ≤ (zipD xs ys).length
      rw [zipD_len, Nat.min_eq_right (by omega)]
      exact Nat.le_refl _
theorem jok_zipT {a b : Addr} {us vs : List V} {xs ys : List D} (h1 : SqT G.K H a us) (r1 : RpA G.K G.cv O H us xs) (h2 : SqT G.K H b vs) (r2 : RpA G.K G.cv O H vs ys) : JOk G O σ H (RZ.ItzT G.K a b) (.of (zipD xs ys)) := by
  constructor
  · intro O' σ' H' ρ i d E e g _ hi hd
    obtain ⟨x, y, ex, ey, rfl⟩ := zipD_get hd
    have k1 := SqT.ex e h1
    have k2 := SqT.ex e h2
    obtain ⟨u, hu, ru⟩ := r1.get ex
    obtain ⟨v, hv, rv⟩ := r2.get ey
    refine ⟨⟨us, vs, u, v, k1, k2, hu, hv⟩, fun z H2 yl => ?_⟩
    obtain ⟨T, u', v', rfl, hT, rfl, f1, f2⟩ := yl
    have e1 := f1 us k1
    have e2 := f2 vs k2
    rw [hu] at e1
    rw [hv] at e2
    cases e1
    cases e2
    exact ⟨upd_new hT, rp_newT hT (.cons ((ru.gw g).ex (e.mono g.wsub)) (.cons ((rv.gw g).ex (e.mono g.wsub)) .nil))⟩
  · intro O' σ' H' ρ E e g _ _
    refine ⟨us, vs, SqT.ex e h1, SqT.ex e h2, ?_⟩
    show us.length ≤ (zipD xs ys).length ∨ vs.length ≤ (zipD xs ys).length
    rw [zipD_len, r1.len, r2.len]
    by_cases c : xs.length ≤ ys.length
    · exact .inl (by rw [Nat.min_eq_left c]; exact Nat.le_refl _)
    · exact .inr (by rw [Nat.min_eq_right (by omega)]; exact Nat.le_refl _)
end
theorem storeAll_deref : ∀ {rs : List Rv} {ρ : Env} {ds es : List D}, storeAll rs = some ds → derefAll rs ρ = some es → ds = es
  | [], _, _, _, h1, h2 => by cases h1; cases h2; rfl
  | .slot _ :: _, _, _, _, h1, _ => by cases h1
  | .val d :: rs, ρ, ds, es, h1, h2 => by
    rw [storeAll_val] at h1
    rw [derefAll_cons, deref_val] at h2
    cases q1 : storeAll rs with
    | none => rw [q1] at h1; cases h1
    | some a =>
      cases q2 : derefAll rs ρ with
      | none => rw [q2] at h2; cases h2
      | some b =>
        rw [q1] at h1
        rw [q2] at h2
        cases h1
        cases h2
        rw [storeAll_deref q1 q2]
/-- what zip walks -/
theorem zip_in {f : Env → Out (List Rv)} {σ : L2.St} {H : Hp} {O : AS} {ρ : Env} {R : It → Hp → Prop} (E : ER G O σ H ρ) (a : match iZip f ρ with
      | .ok c ρ' => ∀ J H', ER G O σ H' ρ' → EX O H H' → JOk G O σ H' J c → R J H'
      | .err c ρ' => ∀ (dd : DD c) H', ER G O σ H' ρ' → EX O H H' → W (G.cv c) dd.1 σ H'
      | .bad => False) : tr RvA G W f σ H fun vs H1 => ∃ a b xs ys, vs = [V.ref a, V.ref b] ∧ ((SqL G.K H1 a xs ∧ SqL G.K H1 b ys ∧ R (Itz G.K a b) H1) ∨ (SqT G.K H1 a xs ∧ SqT G.K H1 b ys ∧ R (RZ.ItzT G.K a b) H1)) := by
  refine ⟨O, ρ, E, iv_in (R1 := RvA) (g := fun rs ρ1 => Out.of (zipSrc rs ρ1) ρ1) E a fun rs ρ1 vs H1 E1 e1 r1 a1 => ?_⟩
  cases q : zipSrc rs ρ1 with
  | none => rw [q] at a1; exact a1.elim
  | some c =>
    rw [q] at a1
    have a1 : ∀ J H', ER G O σ H' ρ1 → EX O H1 H' → JOk G O σ H' J c → R J H' := a1
    unfold zipSrc at q
    cases q1 : derefAll rs ρ1 with
    | none => rw [q1] at q; cases q
    | some ds =>
      rw [q1] at q
      split at q
      · rename_i xs ys hds
        cases hds
        split at q
        · rename_i hs
          cases q
          obtain ⟨es, hes⟩ := Option.isSome_iff_exists.mp hs
          have := storeAll_deref hes q1
          subst this
          have rr := r1.all hes
          cases rr with
          | cons h1 t =>
            cases t with
            | cons h2 t =>
              cases t
              cases h1 with
              | lst k1 k2 =>
                cases h2 with
                | lst k3 k4 => exact ⟨_, _, _, _, rfl, .inl ⟨k1.sq, k3.sq, a1 _ _ E1 (EX.refl _ _) (jok_zipL k1 k2 k3 k4)⟩⟩
        · cases q
      · rename_i xs ys hds
        cases hds
        cases q
        obtain ⟨v, w, rfl, h1, h2⟩ := rsa2 (derefAll_rs E1 r1 q1)
        obtain ⟨a, us, rfl, k1, k2⟩ := rs_tup h1
        obtain ⟨b, ws, rfl, k3, k4⟩ := rs_tup h2
        exact ⟨a, b, us, ws, rfl, .inr ⟨k1, k3, a1 _ _ E1 (EX.refl _ _) (jok_zipT k1 k2 k3 k4)⟩⟩
      · cases q
theorem iv_zip {e e2 : Expr} {f : Env → Out (List Rv)} {p pos tpos : Pos} {elts : List Expr} {kk : Nat} (ha : Av X G W [e, e2] f) (hg : Gl X "zip") (hm : X.mg "zip" = none) (hK : X.K = G.K := by rfl) (hs : starEach [e, e2] X.env = (false, eval e X.env) :: starEach [e2] X.env := by rfl) (hpl : (backTo pos (starEach [e2] X.env)).any (·.1) = false := by rfl) :
    Iv X G W (.Tuple elts kk tpos) (.Call (.Name "zip" p) [e, e2] [] pos) (iZip f) := PIw_ (RZ.pi_zipA hg hm ha hs hpl) fun σ H R ⟨O, ρ, E, a⟩ => by
  rw [hK]
  exact zip_in E a
end
end EL

/-! E19: an error's classes told while it is handled; a lambda handed to the def that catches. -/
namespace EL
open PySem PySem.Spec PyProof.Rows L2 HotX LamX

/-! ### blocks while an exception is handled -/
section
variable {X : Cx} {G : Gr} {W : WX}
abbrev Ivh (X : Cx) (G : Gr) (W : WX) (tg iter : Expr) (f : Env → Out CSrc) : Prop := PIhot X tg iter (tIv G W f)
def zipSrcL (rs : List Rv) (ρ : Env) : Option CSrc := match storeAll rs with
  | some [.lst xs, .lst ys] => some (.of (zipD xs ys))
  | _ => none
def iZipH (f : Env → Out (List Rv)) : Env → Out CSrc := fun ρ => (f ρ).bind fun rs ρ1 => Out.of (zipSrcL rs ρ1) ρ1
theorem ivh_zip {e e2 : Expr} {f : Env → Out (List Rv)} {p pos tpos : Pos} {elts : List Expr} {kk : Nat} (ha : Av X G W [e, e2] f) (hg : Gl X "zip") (hm : X.mg "zip" = none) (hK : X.K = G.K := by rfl) (hs : starEach [e, e2] X.env = (false, eval e X.env) :: starEach [e2] X.env := by rfl) (hpl : (backTo pos (starEach [e2] X.env)).any (·.1) = false := by rfl) :
    Ivh X G W (.Tuple elts kk tpos) (.Call (.Name "zip" p) [e, e2] [] pos) (iZipH f) := ⟨fun pins s σ H R I ⟨O, ρ, E, a⟩ => (pi_zipH hg hm ha hs hpl).run pins s σ H R I ⟨O, ρ, E, by
  rw [hK]
  refine iv_in (R1 := RvA) (g := fun rs ρ1 => Out.of (zipSrcL rs ρ1) ρ1) E a fun rs ρ1 vs H1 E1 e1 r1 a1 => ?_
  cases q : zipSrcL rs ρ1 with
  | none => rw [q] at a1; exact a1.elim
  | some c =>
    rw [q] at a1
    have a1 : ∀ J H', ER G O σ H' ρ1 → EX O H1 H' → JOk G O σ H' J c → R J H' := a1
    unfold zipSrcL at q
    split at q
    · rename_i xs ys hds
      cases q
      have rr := r1.all hds
      cases rr with
      | cons h1 t =>
        cases t with
        | cons h2 t =>
          cases t
          cases h1 with
          | lst k1 k2 =>
            cases h2 with
            | lst k3 k4 => exact ⟨_, _, _, _, rfl, k1.sq, k3.sq, a1 _ _ E1 (EX.refl _ _) (jok_zipL k1 k2 k3 k4)⟩
    · cases q⟩⟩
theorem gv_tupH {is : List Nat} {es : List Expr} {k : Nat} {pos : Pos} (hot : HotE X) (h : Gsv X G is es) (hK : X.K = G.K := by rfl) (hn : (assignEach es X.env).length = is.length := by rfl) (hst : (assignEach es X.env).findIdx? (·.1) = none := by rfl) : Gv X G is (.Tuple es k pos) (gTupD is) :=
  PGw_ (pg_tupH hot h hn hst) fun v σ H Q ⟨O, ρ, d, ρ', E, r, h, q⟩ => by
    cases d with
    | tup ds =>
      cases r with
      | tup h1 r1 => exact ⟨_, _, rfl, by rw [hK]; exact h1, by rw [r1.len]; exact setAll_len h, O, ρ, ds, ρ', E, r1, h, q⟩
    | _ => cases h
theorem fv_compH {elt tg iter : Expr} {ifs : List Expr} {scope : Scope} {own : List (Str × Nat)} {pos : Pos} {fi : Env → Out CSrc} {is : List Nat} {g : Tg} {ft : Env → Out Bool} {fe : Env → Out Rv} (hot : L2H.HotC X) (hN : X.N.Nodup) (ok : BlkOk X.N X.env.scope scope own)
    (hi : Ivh X G W tg iter fi) (hg : ∀ (s : Shared) (H : Hp) (C : Addr) (cl : List (Str × Addr)) (fp : List Addr), HotE (blkOf X s H scope C cl fp) → Gv (blkOf X s H scope C cl fp) G is tg g) (ht : ∀ (s : Shared) (H : Hp) (C : Addr) (cl : List (Str × Addr)) (fp : List Addr), Tsv (blkOf X s H scope C cl fp) G WN ifs ft)
    (he : ∀ (s : Shared) (H : Hp) (C : Addr) (cl : List (Str × Addr)) (fp : List Addr), Ev (blkOf X s H scope C cl fp) G WN elt fe) (his : (is.all fun i => (own.map (·.2)).contains i) = true := by rfl) (hs : ∀ x, foldedSetIterable iter X.env x = pure x := by intro _; rfl) :
    Fv X G W (.ListComp elt [⟨tg, iter, ifs, 0⟩] scope pos) (eCompL fi (own.map (·.2)) g ft fe) :=
  PEw_ (pe_lcH hot hN hi ok hg ht he hs) fun σ H Q ⟨O, ρ, E, a⟩ => comp_in (fun i hi => by simpa using List.all_eq_true.mp his i hi) E a
/-! ### isinstance(e, C), e handled -/
theorem call_isH {a D : Addr} {oe : Obj} (C : ExcC X.K D) (hz : Zc (.ref D) none oe) (hf : ∃ vs, oe.data = .fields vs) (hm : (a, oe) ∈ X.pn) : CallR X (.builtin "isinstance") (rIsE X.K D a) := by
  intro pins s σ H xs us Q I r h
  obtain ⟨c, cv, b, rfl, hcv, e, q⟩ := h
  obtain ⟨u, v, rfl, rx, rt⟩ := Vals.two r
  cases rx
  have ec := hcv _ rt
  subst ec
  obtain ⟨hget, _⟩ := I.pin (a, oe) (List.mem_append.mpr (.inl hm))
  obtain ⟨vs, hv⟩ := hf
  have J : PySem.W.InstAt s.heap a oe D none := by
    obtain ⟨o1, o2, o3, o4⟩ := oe
    obtain ⟨h1, h2⟩ := hz
    dsimp only at h1 h2 hv
    subst h1 h2 hv
    exact ⟨hget, rfl, rfl, trivial⟩
  exact PySem.W.kia_one (PySem.W.handS_kitx_exc C.hg C.hk C.hs C.hd C.ha C.hn C.ht C.hm) I.kIn J e (fun z => nomatch z) fun tk => ⟨.bl b, H, I.kept (t' := tk) fun _ _ z => z, rfl, q⟩
/-- the answer b, if slot k holds a -/
def eIsE (k : Nat) (a : Addr) (b : Bool) : Env → Out Rv := fun ρ => match ρ[k]? with
  | some (.val (.ref c)) => if c = a then .ok (.val (.bl b)) ρ else .bad
  | _ => .bad
theorem isE_in {k : Nat} {a : Addr} {b : Bool} {O : AS} {σ : L2.St} {H : Hp} {ρ : Env} {Q : VK} (E : ER G O σ H ρ) (h : ans RvR G O W σ H (eIsE k a b ρ) Q) : σ[k]? = some (some (.ref a)) ∧ Q (.bl b) H := by
  unfold eIsE at h
  split at h
  · rename_i c hc
    split at h
    · rename_i e
      subst e
      obtain ⟨v, h1, h2⟩ := E.slot k _ hc
      cases h2
      exact ⟨h1, ans_ok (R1 := RvR) (a := Rv.val (.bl b)) h E (EX.refl _ _) (.bl b)⟩
    · exact h.elim
  · exact h.elim
theorem ev_isEo {k : Nat} {a D CA : Addr} {oe : Obj} {b : Bool} {x y : Str} {p p1 p2 pos : Pos} (C : ExcC X.K D) (hz : Zc (.ref D) none oe) (hf : ∃ vs, oe.data = .fields vs) (hm : (a, oe) ∈ X.pn) (hk : PySem.W.kitOne X.K (.ref D) (.ref CA) = some b) (hN : X.N[k]? = some x) (hv : Vis X.env.scope x)
    (hg : Gl X "isinstance") (hmi : X.mg "isinstance" = none) (hgC : Gl X y) (hmC : X.mg y = some (.ref CA)) (hd : (x == ("__debug__" : Str)) = false := by decide) (hcd : (x == ("__classdict__" : Str)) = false := by decide) (hdC : (y == ("__debug__" : Str)) = false := by decide)
    (hs : starEach [.Name x p1, .Name y p2] X.env = (false, eval (.Name x p1) X.env) :: starEach [.Name y p2] X.env := by rfl) (hs2 : starEach [.Name y p2] X.env = (false, eval (.Name y p2) X.env) :: starEach [] X.env := by rfl) (hpl : (backTo pos (starEach [.Name y p2] X.env)).any (·.1) = false := by rfl) :
    Ev X G W (.Call (.Name "isinstance" p) [.Name x p1, .Name y p2] [] pos) (eIsE k a b) :=
  PEw_ (pe_callB (call_isH C hz hf hm) hg hmi (by decide +kernel) (pa_cons (pe_var hN hv hd hcd) (pa_cons (pe_glob hgC hmC (v := .ref CA) rfl hdC) pa_nil hs2) hs) (by decide) (by decide) hs hpl) fun σ H Q ⟨O, ρ, E, h⟩ => by
    obtain ⟨h1, h2⟩ := isE_in E h
    exact ⟨.ref a, h1, .ref CA, .ref CA, b, rfl, fun u r => r, hk, h2⟩
theorem ev_isEb {k : Nat} {a D : Addr} {oe : Obj} {b : Bool} {x y : Str} {T : String} {p p1 p2 pos : Pos} (C : ExcC X.K D) (hz : Zc (.ref D) none oe) (hf : ∃ vs, oe.data = .fields vs) (hm : (a, oe) ∈ X.pn) (hk : PySem.W.kitOne X.K (.ref D) (.type T) = some b) (hN : X.N[k]? = some x) (hv : Vis X.env.scope x)
    (hg : Gl X "isinstance") (hmi : X.mg "isinstance" = none) (hgC : Gl X y) (hmC : X.mg y = none) (hvC : bootBuiltins y = some (.type T)) (hd : (x == ("__debug__" : Str)) = false := by decide) (hcd : (x == ("__classdict__" : Str)) = false := by decide) (hn : y ≠ "__name__" := by decide) (hdC : (y == ("__debug__" : Str)) = false := by decide)
    (hs : starEach [.Name x p1, .Name y p2] X.env = (false, eval (.Name x p1) X.env) :: starEach [.Name y p2] X.env := by rfl) (hs2 : starEach [.Name y p2] X.env = (false, eval (.Name y p2) X.env) :: starEach [] X.env := by rfl) (hpl : (backTo pos (starEach [.Name y p2] X.env)).any (·.1) = false := by rfl) :
    Ev X G W (.Call (.Name "isinstance" p) [.Name x p1, .Name y p2] [] pos) (eIsE k a b) :=
  PEw_ (pe_callB (call_isH C hz hf hm) hg hmi (by decide +kernel) (pa_cons (pe_var hN hv hd hcd) (pa_cons (pe_bltn (v := .ty T) hgC hmC hvC rfl hn hdC) pa_nil hs2) hs) (by decide) (by decide) hs hpl) fun σ H Q ⟨O, ρ, E, h⟩ => by
    obtain ⟨h1, h2⟩ := isE_in E h
    exact ⟨.ref a, h1, .ty T, .type T, b, rfl, fun u r => r, hk, h2⟩
end

/-! ### a def run while an exception is handled, told of its object -/
section
variable {P : Program} {w : World} {K : PySem.W.Frag} {mg : Str → Option Value} {base : Heap} {x qual : Str} {params : Arguments} {body : List Stmt} {scope : Scope} {f : Addr} {fd : FuncData}
theorem run_hot {CX : CXT} {N ps : List Str} {k : Nat} (F : FunD K x qual params body scope [] [] f fd) (S : FnScope N ps scope) {A : Around} {outer : List PySem.Env} {s : Shared} {H : Hp} {args : Args} {us : List Value} {vs : List V} {Q : VK} {E : XK} {p : Addr × Obj} (hr : L2H.RoomH (k + 1) A) (hot : L2H.Hot1 A p) (pin : L2H.PinOk outer H s p)
    (e0 : Env0 P w K mg base A outer s H) (hb : BindsTo s fd args (ps.zip us)) (r : Vals vs us) (hl : vs.length = ps.length)
    (hbody : ∀ cdv, L2H.RoomH k (A.deeper (envOfC qual scope s.heap.objs.size f cdv)) → ∃ t, PSs (L2H.cxH CX P w K mg base N qual scope f cdv A outer s H E p) body t ∧ t { nx := fun _ H' => Q .non H', rt := Q } (L2.start N vs) H) : codeAny (model P w) A (.call (.ref f) args) (CR CX outer P w H s Q E) s := by
  obtain ⟨oc, od, dV, kV, doc, pm, an, cdv, ct, osl, rfl, lk, hcd, _, _⟩ := F.ex
  have kin : K.In s.heap := e0.mod.kin.keeps fun b o e => (e0.bs b o e).1
  have nolim : s.heap.NoLimit := e0.mod.nolimit.keeps fun b o e => (e0.bs b o e).1
  refine codeAny_call_function hr.depth (kin _ _ lk) rfl S.co S.gen rfl (PySem.W.codeRec_of kin hcd) (hb _ _ _ _ ?_)
  refine wpAny_newFunctionEnv_cells S.kind (fun y hy => ?_) fun env he s1 z => ?_
  · rcases S.par y.1 (List.of_mem_zip hy).1 with q | q
    · exact .inl q
    · exact .inr ⟨q, PySem.W.cellsFrom_some _ _ _ (.inl q)⟩
  subst he
  refine ⟨nolim.keeps z.toInCall.keep, codeAny_func ?_⟩
  obtain ⟨t, ht, hq⟩ := hbody cdv (hr.deeper _)
  have I := L2H.inv_startH (CX := CX) (E := E) (w := w) (K := K) (mg := mg) S pin e0 hl r z
  refine wpAny_mono (ht.run [] s1 (L2.start N vs) H _ I hq) (fun fl s' hs => ?_) fun e s' hs => hs
  cases fl with
  | ret u =>
    obtain ⟨v, σ', H', J, rv, q⟩ := hs
    exact ⟨v, H', J.os, J.bare, J.base, J.hok, rv, q⟩
  | next =>
    obtain ⟨σ', H', J, q⟩ := hs
    exact ⟨.non, H', J.os, J.bare, J.base, J.hok, rfl, q⟩
  | brk => obtain ⟨_, _, _, q⟩ := hs; exact q.elim
  | cont => obtain ⟨_, _, _, q⟩ := hs; exact q.elim
end

/-! ### a lambda is made -/
section
variable {X : Cx} {pins : List (Addr × Obj)} {σ : L2.St} {H : Hp} {s : Shared}
/-- what stands then: all but tables, and no address is forgotten -/
structure Grown (H H1 : Hp) : Prop where
  ext : ExtN H H1
  dom : ∀ b, H b ≠ none → H1 b ≠ none
theorem lam_laid {T : List (Addr × Str)} {c P : Addr} {params : Arguments} {body : Expr} {scope : Scope} {pos : Pos} {E : Value → Shared → Prop} {Q : Value → Shared → Prop} (I : Inv X pins σ H s) (TB : TabB X.base X.mg c P) (code : X.env.code = .ref c)
    (inT : (P, X.env.qual ++ "<lambda>") ∈ T) (uniq : ∀ p ∈ T, p.1 = P → p.2 = X.env.qual ++ "<lambda>") (tabs : Tabs T H) (nodef : defaultsOf params X.env = ([], [])) (caps : ∀ y ∈ scope.names, y.2 = .free → ∃ c, X.env.cells.lookup y.1 = some c)
    (h : ∀ (f c' : Addr) (pm ctv : Value) (H1 : Hp) (s' : Shared), Inv X pins σ H1 s' → Grown H H1 → Tabs T H1 → s'.heap.get? f = some (PySem.W.kla_obj "<lambda>" (X.env.qual ++ "<lambda>") params body scope (cloFrom X.env.cells scope.names []) pm c' ctv) → H1 f = none → f ∉ frs X.stack →
      H1 c' = some (CodeO c' (X.env.qual ++ "<lambda>")) → Q (.ref f) s') : wpAny (model X.prog X.w) X.A (eval (.Lambda params body scope pos) X.env) Q E s := by
  obtain ⟨ps, atP, trip, among⟩ := tabs _ inT
  refine PySem.W.kla_eval nodef ?_
  have bm : s.heap.BuiltinsAt X.mg P := TB.bm.keeps I.bk
  have objP : s.heap.get? P = some { cls := .none, data := .fields ps } := I.hok P _ atP
  have noframe : ∀ f, s.heap.objs.size ≤ f → f ∉ frs X.stack := fun f hf z => (List.mem_cons.mp (I.stkSub _ z)).elim (fun e => by
    have lt := I.lt
    rw [← e] at lt
    exact absurd (Nat.lt_of_lt_of_le lt hf) (Nat.lt_irrefl _)) fun e => I.nofs hf e
  cases met : codeAmong pos ps.toList with
  | some cv =>
    obtain ⟨c', ec, obc⟩ := among pos cv met
    subst ec
    refine PySem.W.kla_makeFunctionHit (mg := X.mg) (c := c) (P := P) (ps := ps) (closure_ok caps) I.ok.glob (I.mod.glob.keeps I.bk) code (TB.code.keeps I.bk) objP trip met bm fun ctv h' tk keep szs => ?_
    exact h h'.objs.size c' _ ctv H _ (I.kept (t' := tk) fun b o e => Heap.get?_push_of_some _ (keep b o e)) ⟨ExtN.refl H, fun _ z => z⟩ tabs (Heap.get?_push_size _ rfl) (I.hok.fresh szs) (noframe _ szs) obc
  | none =>
    refine PySem.W.kla_makeFunction (mg := X.mg) (c := c) (P := P) (ps := ps) (closure_ok caps) I.ok.glob (I.mod.glob.keeps I.bk) code (TB.code.keeps I.bk) objP trip met TB.gP bm fun c' ctv h' tk keep ge lt rec tb => ?_
    obtain ⟨c2, oc, vs, t, e2, hoc, hd, hv⟩ := rec
    cases e2
    have szs : s.heap.objs.size ≤ h'.objs.size := Nat.le_trans ge (Nat.le_of_lt lt)
    have newc : H c' = none := I.hok.fresh ge
    have J := inv_table (t' := tk) (more := #[rawInt pos.line, rawInt pos.col, .ref c']) (h' := h'.push (PySem.W.kla_obj "<lambda>" (X.env.qual ++ "<lambda>") params body scope (cloFrom X.env.cells scope.names []) ((X.mg "__name__").getD .none) c' ctv)) I atP
      (fun b o hb e => Heap.get?_push_of_some _ (keep b o hb e)) (Heap.get?_push_of_some _ tb) ge ⟨oc, vs, t, Heap.get?_push_of_some _ hoc, hd, hv⟩
    have grow : ∀ b o, H b = some o → b ≠ P → upd (upd H P (.tbl (ps ++ #[rawInt pos.line, rawInt pos.col, .ref c']))) c' (CodeO c' (X.env.qual ++ "<lambda>")) b = some o := fun b o e n => by
      rw [upd_ne (ne_of_none e newc), upd_ne n]
      exact e
    have atP1 : upd (upd H P (.tbl (ps ++ #[rawInt pos.line, rawInt pos.col, .ref c']))) c' (CodeO c' (X.env.qual ++ "<lambda>")) P = some (.tbl (ps ++ #[rawInt pos.line, rawInt pos.col, .ref c'])) := by
      rw [upd_ne (ne_of_none atP newc), upd_same]
    have nP : ∀ b o, H b = some o → (∀ q, o ≠ .tbl q) → b ≠ P := fun b o e n z => by
      rw [z, atP] at e
      exact n ps (Option.some.inj e).symm
    have lst : (ps ++ #[rawInt pos.line, rawInt pos.col, .ref c']).toList = ps.toList ++ [rawInt pos.line, rawInt pos.col, .ref c'] := by simp
    refine h h'.objs.size c' _ ctv _ _ J ⟨fun b o e n => grow b o e (nP b o e n), fun b hb => ?_⟩ (fun p hp => ?_) (Heap.get?_push_size _ rfl) ?_ (noframe _ szs) upd_same
    · by_cases z : b = P
      · rw [z, atP1]; simp
      · cases y : H b with
        | none => exact absurd y hb
        | some o => rw [grow b o y z]; simp
    · by_cases z : p.1 = P
      · rw [uniq p hp z, z]
        refine ⟨_, atP1, by rw [lst]; exact PySem.TriplesOk_snoc _ _ _ _ trip, fun p' cv hcv => ?_⟩
        rw [lst] at hcv
        rcases among_app _ trip hcv with y | y
        · obtain ⟨c0, y1, y2⟩ := among p' cv y
          exact ⟨c0, y1, grow _ _ y2 (nP _ _ y2 codeO_ne)⟩
        · exact ⟨c', y, upd_same⟩
      · obtain ⟨ps', y1, y2, y3⟩ := tabs p hp
        refine ⟨ps', grow _ _ y1 z, y2, fun p' cv hcv => ?_⟩
        obtain ⟨c0, x1, x2⟩ := y3 p' cv hcv
        exact ⟨c0, x1, grow _ _ x2 (nP _ _ x2 codeO_ne)⟩
    · rw [upd_ne (Nat.ne_of_gt lt), upd_ne (Nat.ne_of_gt (Nat.lt_of_lt_of_le (Heap.lt_size objP) szs))]
      exact I.hok.fresh szs
end
def tLamE (T : List (Addr × Str)) (TT : (XK → Hp → VK → Prop) → Hp → VK → Prop) (t : XK → TE) : TE := fun σ H Q => Tabs T H ∧ ∀ H1, Grown H H1 → Tabs T H1 → TT (fun E H' Q' => t E σ H' Q') H1 Q

/-! ### lambdas: what they raise has no context -/
def lamE (X : Cx) (A : Around) (outer : List PySem.Env) (s : Shared) (H : Hp) (E : XK) (scope : Scope) (f c' : Addr) : Cx := { lamCx X A outer s H E scope f c' with
  xe := fun e s' => wpAny (model X.prog X.w) (A.deeper (lamEnv X scope s.heap.objs.size f c')) (leaving (lamEnv X scope s.heap.objs.size f c') e) (fun _ s2 => L2N.CX X.prog X.w outer H s E e s2) (fun e2 s2 => L2N.CX X.prog X.w outer H s E e2 s2) s' }
theorem lamE_of {X : Cx} {A : Around} {outer : List PySem.Env} {s : Shared} {H : Hp} {E : XK} {scope : Scope} {f c' : Addr} {pins : List (Addr × Obj)} {σ : L2.St} {H1 : Hp} {s1 : Shared} (I : Inv (lamCx X A outer s H E scope f c') pins σ H1 s1) : Inv (lamE X A outer s H E scope f c') pins σ H1 s1 :=
  Inv.unwish (X := lamE X A outer s H E scope f c') (E := (lamCx X A outer s H E scope f c').xe) I
theorem lamE_takes {X : Cx} {A : Around} {outer : List PySem.Env} {s : Shared} {H : Hp} {E : XK} {scope : Scope} {f c' : Addr} : L2N.Takes (lamE X A outer s H E scope f c') (fun cls d _ H => E cls d H) := L2N.takes_of rfl rfl rfl rfl
section
variable {X : Cx} {pins : List (Addr × Obj)} {σ : L2.St} {H HZ : Hp} {s s1 : Shared}
abbrev gX (X : Cx) (Ng : List Str) (x : Str) (sg : Scope) (g : Addr) (cdg : Value) (s : Shared) (H : Hp) : Cx := cxOf C8.CX0 X.prog X.w X.K X.mg X.base Ng x sg g cdg X.A X.stack s H C8.E0
/-- x(), in the def that got the lambda -/
theorem act_lam {Ng : List Str} {qg : Str} {sg : Scope} {g f c' : Addr} {cdg pm ctv : Value} {params : Arguments} {body : Expr} {scope : Scope} {k i : Nat} {a : Str} {pn : List (Addr × Obj)} {xe : Value → Shared → Prop} {W : WX} {E : XK} {tb : TE} {p1 p2 : Pos}
    (I : Inv X pins σ H s) (L : LamS X.env.scope scope) (obj : s.heap.get? f = some (PySem.W.kla_obj "<lambda>" (X.env.qual ++ "<lambda>") params body scope (cloFrom X.env.cells scope.names []) pm c' ctv)) (fn : H f = none) (fnfr : f ∉ frs X.stack)
    (bind0 : bindArgs (PySem.W.kla_fn "<lambda>" (X.env.qual ++ "<lambda>") params body scope (cloFrom X.env.cells scope.names []) pm (.ref c') ctv) ⟨[], []⟩ = pure []) (tk : L2N.Takes ((gX X Ng qg sg g cdg s H).tr pn xe) W) (hW : ∀ cls d σ' H', E cls d H' → W cls d σ' H')
    (hr : Room (k + 1) (X.A.deeper (envOfC qg sg s.heap.objs.size g cdg))) (hbody : ∀ (A : Around) (outer : List PySem.Env) (s : Shared) (H : Hp), Room k (A.deeper (lamEnv X scope s.heap.objs.size f c')) → PE (lamE X A outer s H E scope f c') body tb)
    (hN : Ng[i]? = some a) (hv : Vis sg a) (hd : (a == ("__debug__" : Str)) = false) (hcd : (a == ("__classdict__" : Str)) = false) :
    PE ((gX X Ng qg sg g cdg s H).tr pn xe) (.Call (.Name a p1) [] [] p2) (fun σZ HZ Q => σZ[i]? = some (some (.ref f)) ∧ HZ c' = some (CodeO c' (X.env.qual ++ "<lambda>")) ∧ tb σ HZ Q) := by
  refine ⟨fun pinsZ sZ σZ HZ Q IZ ⟨hs, hc, ht⟩ => ?_⟩
  refine wpAny_Call_Name_kw (thn ((pe_var (pos := p1) (i := i) hN hv hd hcd).run pinsZ sZ σZ HZ (fun v H1 => v = .ref f ∧ H1 = HZ) IZ ⟨.ref f, hs, rfl, rfl⟩) fun u s1 ⟨v, H1, I1, r1, ev, eH⟩ => ?_)
  subst ev
  rw [eH] at I1
  obtain rfl : u = Value.ref f := r1
  have un : Un (frs X.stack) [] H HZ s.heap s1.heap := I1.base
  have obj1 : s1.heap.get? f = some (PySem.W.kla_obj "<lambda>" (X.env.qual ++ "<lambda>") params body scope (cloFrom X.env.cells scope.names []) pm c' ctv) := un.keep f _ obj fn fnfr (by simp)
  refine PySem.W.callWith_F0 ⟨_, _, _, _, obj1⟩ ?_
  obtain ⟨⟨oc, vs, t, hoc, hdc, hvc⟩, _, _⟩ := I1.hok c' _ hc
  have rc : codeAny (model X.prog X.w) (X.A.deeper (envOfC qg sg s.heap.objs.size g cdg)) (.call (.ref f) ⟨[], []⟩) (CR (L2N.CX X.prog X.w) (envOfC qg sg s.heap.objs.size g cdg :: X.stack) X.prog X.w HZ s1 Q E) s1 := by
    refine PySem.W.kla_callFunE hr.depth obj1 rfl L.co L.gen rfl ⟨c', oc, vs, t, rfl, hoc, hdc, hvc⟩ ?_
    rw [bind0]
    refine wpAny_pure (wpAny_newFunctionEnv (fun y hy => (L.own y hy).2) (fun y hy => absurd hy (by simp)) (fun h1 hns hsb => ⟨I1.nolimit.fresh _ hsb, ?_⟩) L.kind)
    show codeAny _ _ (.expr body (lamEnv X scope s1.heap.objs.size f c')) _ _
    have J := lamE_of (lam_start2 (E := E) (f := f) (c' := c') (tk := s1.toks + ([] : List (Str × Value)).length) I L I1.env0 hr.hd un hns fun b o e => hsb.extBut b o (Nat.ne_of_lt (Heap.lt_size e)) (Heap.get?_push_of_some _ e))
    refine PySem.W.kla_codeExpr (wpAny_mono ((hbody _ _ s1 HZ (hr.deeper _)).run [] _ _ HZ Q J ht) (fun v s' ⟨v', H', J', rv, q⟩ => ?_) fun e s' hq => hq)
    exact ⟨v', H', J'.os, J'.bare, J'.base, J'.hok, rv, q⟩
  have hx := L2N.passes_call (E := E) tk hW
  refine wpAny_call (codeAny_mono rc fun r s' hq => ?_)
  cases r with
  | error e => exact hx pinsZ σZ HZ s1 e s' I1 hq
  | ok fl =>
    cases fl with
    | ret u => exact I1.after hq
    | next => exact hq.elim
    | brk => exact hq.elim
    | cont => exact hq.elim
/-- the def that calls what it got -/
def GivesE (X : Cx) (Ng : List Str) (x : Str) (sg : Scope) (g : Addr) (cdg : Value) (bg : List Stmt) (a : Str) (q : Str) (TT : (XK → Hp → VK → Prop) → Hp → VK → Prop) : Prop :=
  ∀ (f c' : Addr) (s : Shared) (H : Hp) (Q : VK) (tl : XK → Hp → VK → Prop),
    (∀ (W : WX) (pn : List (Addr × Obj)) (xe : Value → Shared → Prop) (E : XK) (p1 p2 : Pos), L2N.Takes ((gX X Ng x sg g cdg s H).tr pn xe) W → (∀ cls d σ' H', E cls d H' → W cls d σ' H') → PE ((gX X Ng x sg g cdg s H).tr pn xe) (.Call (.Name a p1) [] [] p2) (fun σZ HZ Q => σZ[0]? = some (some (.ref f)) ∧ HZ c' = some (CodeO c' q) ∧ tl E HZ Q)) →
    H c' = some (CodeO c' q) → TT tl H Q → Room 1 (X.A.deeper (envOfC x sg s.heap.objs.size g cdg)) → ∃ t, PSs (gX X Ng x sg g cdg s H).nox bg t ∧ t { nx := fun _ H' => Q .non H', rt := Q } (L2.start Ng [.ref f]) H
/-- x(lambda: body) -/
theorem pe_lamE {T : List (Addr × Str)} {TT : (XK → Hp → VK → Prop) → Hp → VK → Prop} {x a : Str} {g c P : Addr} {k : Nat} {pg : Arguments} {bg : List Stmt} {sg : Scope} {fdg : FuncData} {Ng : List Str} {params : Arguments} {body : Expr} {scope : Scope} {t : XK → TE} {p lpos pos : Pos}
    (hg : Gl X x) (hm : X.mg x = some (.ref g)) (F : FunD X.K x x pg bg sg [] [] g fdg) (hb : L2.Binds X.K fdg [a] []) (Sg : FnScope Ng [a] sg) (hNg : Ng[0]? = some a) (hva : Vis sg a) (hG : ∀ cdg, GivesE X Ng x sg g cdg bg a (X.env.qual ++ "<lambda>") TT) (TB : TabB X.base X.mg c P) (hcode : X.env.code = .ref c) (hmT : (P, X.env.qual ++ "<lambda>") ∈ T)
    (hu : ∀ p ∈ T, p.1 = P → p.2 = X.env.qual ++ "<lambda>") (hr : Room (k + 2) X.A) (L : LamS X.env.scope scope) (hdef : defaultsOf params X.env = ([], [])) (hbind : ∀ (q : Str) (cl : List (Str × Addr)) (pm cv ctv : Value), bindArgs (PySem.W.kla_fn "<lambda>" q params body scope cl pm cv ctv) ⟨[], []⟩ = pure [])
    (hbody : ∀ (A : Around) (outer : List PySem.Env) (s : Shared) (H : Hp) (E : XK) (f c' : Addr), Room k (A.deeper (lamEnv X scope s.heap.objs.size f c')) → PE (lamE X A outer s H E scope f c') body (t E)) (hdb : (x == ("__debug__" : Str)) = false := by decide) (hd : (a == ("__debug__" : Str)) = false := by decide) (hcd : (a == ("__classdict__" : Str)) = false := by decide) :
    PE X (.Call (.Name x p) [.Lambda params body scope lpos] [] pos) (tLamE T TT t) := by
  refine ⟨fun pins s σ H Q I ⟨hT, h⟩ => ?_⟩
  obtain ⟨oc, od, dV, kV, doc, pm, an, cdv, ct, osl, rfl, lk, hcg, _, _⟩ := F.ex
  refine wpAny_Call_Name_kw (ld_glob I hg hm ?_ hdb)
  refine PySem.W.callWith_K (h₀ := X.base) I.ok.mod.kin F.kp ?_ (by rfl) (by rfl)
  show wpAny _ _ (spliced ((false, eval (.Lambda params body scope lpos) X.env) :: backTo pos (starEach [] X.env))) _ _ s
  refine Calls.spliced_cons (lam_laid I TB hcode hmT hu hT hdef (L.has I.ok) fun f c' pm' ctv H1 s' I1 eN T1 hf hfn hfr hco => Calls.spliced_nil ⟨I1.kIn, ?_⟩)
  have rc : codeAny (model X.prog X.w) X.A (.call (.ref g) ⟨[.ref f], []⟩) (CR C8.CX0 X.stack X.prog X.w H1 s' Q C8.E0) s' := by
    refine run_ofS (N := Ng) (ps := [a]) (us := [.ref f]) (vs := [.ref f]) lk hcg Sg hr I1.env0 (hb s' [.ref f] I1.kIn rfl) (.cons rfl .nil) rfl fun hr' => ?_
    obtain ⟨t', ht', hq'⟩ := hG cdv f c' s' H1 Q (fun E H' Q' => t E σ H' Q') (fun W pn xe E p1 p2 tk hW => act_lam (i := 0) I1 L hf hfn hfr (hbind _ _ _ _ _) tk hW hr' (fun A outer s H hr2 => hbody A outer s H E f c' hr2) hNg hva hd hcd) hco (h H1 eN T1) (hr'.mono (Nat.succ_le_succ (Nat.zero_le _)))
    exact ⟨t', ht'.nox, hq'⟩
  refine wpAny_call (codeAny_mono rc fun r s2 hq => ?_)
  cases r with
  | error e => exact (show False from hq).elim
  | ok fl =>
    cases fl with
    | ret u => exact I1.after hq
    | next => exact hq.elim
    | brk => exact hq.elim
    | cont => exact hq.elim
end
end EL

/-! E20: the def that calls a lambda and tells the error's names. -/
namespace EL
open PySem PySem.Spec PyProof.Rows L2 HotX LamX

/-- what is told of errors: nm c the text of an error of class c -/
structure NmsK (P : Program) (w : World) (K : PySem.W.Frag) (mg : Str → Option Value) (base : Heap) (cv : String → Value) (T : List (Addr × Str)) (x : Str) (par : Str) (nm : String → Option Str) : Prop where
  ex : ∃ (f : Addr) (fd : FuncData), mg x = some (.ref f) ∧ PySem.W.keepIn K (.ref f) = true ∧ Binds K fd [par] [] ∧ ∀ (c : String) (z : Str), nm c = some z → ∀ (A : Around) (outer : List PySem.Env) (s : Shared) (H : Hp) (args : Args) (Q : VK) (p : Addr × Obj), L2H.RoomH 1 A → L2H.Hot1 A p → L2H.PinOk outer H s p → Env0 P w K mg base A outer s H →
    L2N.Zn (cv c) none p.2 → Tabs T H → BindsTo s fd args ([par].zip [.ref p.1]) → (∀ H', EX AS.nil H H' → Tabs T H' → Q (.str z) H') → codeAny (model P w) A (.call (.ref f) args) (CR C8.CX0 outer P w H s Q C8.E0) s
/-- try: a() / except C as e: return names(e) / return '' -/
def TTE (K : PySem.W.Frag) (cv : String → Value) (CS : Addr) (T : List (Addr × Str)) (nm : String → Option Str) : (XK → Hp → VK → Prop) → Hp → VK → Prop := fun tl H Q => ∃ E : XK, tl E H (fun _ H' => Q (.str "") H') ∧
  ∀ cls dd H', E cls dd H' → dd = none ∧ ∃ c z, cls = cv c ∧ nm c = some z ∧ PySem.W.exmOne K cls (.ref CS) = some true ∧ Tabs T H' ∧ ∀ H2, EX AS.nil H' H2 → Tabs T H2 → Q (.str z) H2
section
variable {X : Cx}
/-- names(e), in the except suite -/
theorem pe_names {X0 : Cx} {a : Addr} {oe : Obj} {pn : List (Addr × Obj)} {cls : Value} {d : Option Addr} {cv : String → Value} {T : List (Addr × Str)} {x par en : Str} {nm : String → Option Str} {i : Nat} {p1 p2 pos : Pos} (B : NmsK X0.prog X0.w X0.K X0.mg X0.base cv T x par nm) (hr : Room 1 X0.A) (hz : L2N.Zn cls d oe) (hf : ∃ vs, oe.data = .fields vs)
    (hg : Gl X0 x) (hN : X0.N[i]? = some en) (hv : Vis X0.env.scope en) (hdb : (x == ("__debug__" : Str)) = false := by decide) (hd : (en == ("__debug__" : Str)) = false := by decide) (hcd : (en == ("__classdict__" : Str)) = false := by decide)
    (hs : starEach [.Name en p2] X0.env = (false, eval (.Name en p2) X0.env) :: starEach [] X0.env := by rfl) : PE (X0.suite a ((a, oe) :: pn)) (.Call (.Name x p1) [.Name en p2] [] pos)
      (fun σ H Q => d = none ∧ ∃ c z, cls = cv c ∧ nm c = some z ∧ Tabs T H ∧ (∃ σ0 : L2.St, σ = σ0.set i (some (.ref a))) ∧ ∀ H2, EX AS.nil H H2 → Tabs T H2 → Q (.str z) H2) := by
  refine ⟨fun pins s σ H Q I ⟨ed, c, z, ec, ez, hT, ⟨σ0, e0⟩, q⟩ => ?_⟩
  subst ed ec
  have hs1 : σ[i]? = some (some (.ref a)) := by
    have l1 : σ.length = X0.N.length := I.len
    have l2 : i < X0.N.length := (List.getElem?_eq_some_iff.mp hN).1
    rw [e0] at l1 ⊢
    rw [List.length_set] at l1
    exact List.getElem?_set_self (by omega)
  obtain ⟨f, fd, h1, h2, h3, h4⟩ := B.ex
  have hX : Gl (X0.suite a ((a, oe) :: pn)) x := hg
  refine wpAny_Call_Name_kw (ld_glob I hX h1 ?_ hdb)
  refine PySem.W.callWith_K (h₀ := X0.base) I.ok.mod.kin h2 (thn ((pa_cons (X := X0.suite a ((a, oe) :: pn)) (pe_var (pos := p2) (i := i) hN hv hd hcd) pa_nil hs).run pos pins s σ H (fun vs H1 => vs = [.ref a] ∧ H1 = H) I ⟨.ref a, hs1, rfl, rfl⟩) fun us s1 ⟨vs, H1, I1, r, ev, eH⟩ => ⟨I1.kIn, ?_⟩) hs (by rfl)
  subst ev
  rw [eH] at I1
  obtain ⟨u, rfl, ru⟩ := Vals.one r
  cases ru
  have P1 := I1.pin (a, oe) (List.mem_append_left _ List.mem_cons_self)
  have nfr : a ∉ frs X0.stack := fun hm => (List.mem_cons.mp (I1.stkSub a hm)).elim P1.2.2.1 P1.2.2.2.1
  obtain ⟨vs, hvs⟩ := hf
  have hot : L2H.Hot1 (X0.A.mark (some (.ref a))) (a, oe) := ⟨rfl, vs, hvs, hz.2.2 vs hvs⟩
  have bnd := h3 s1 [.ref a] I1.kIn rfl
  rw [List.append_nil] at bnd
  refine wpAny_call (codeAny_mono (h4 c z ez (X0.A.mark (some (.ref a))) X0.stack s1 H ⟨[.ref a], []⟩ Q (a, oe) (L2H.roomH_mark hr _) hot ⟨P1.1, P1.2.1, nfr, P1.2.2.2.2⟩ I1.env0 hz hT bnd q) fun r s' hq => ?_)
  cases r with
  | error e => exact (show False from hq).elim
  | ok fl =>
    cases fl with
    | ret u => exact I1.after hq
    | next => exact hq.elim
    | brk => exact hq.elim
    | cont => exact hq.elim
theorem gives_error {cv : String → Value} {T : List (Addr × Str)} {nm : String → Option Str} {xn par x ap en ex q : Str} {sg : Scope} {g CS : Addr} {cdg : Value} {j : Nat} {p1 p2 p3 p4 p5 p6 p7 p8 p9 p10 p11 p12 : Pos} (B : NmsK X.prog X.w X.K X.mg X.base cv T xn par nm) (hN : ([ap, en] : List Str).Nodup) (hmE : X.mg ex = some (.ref CS)) (hgE : sg.names.lookup ex = some .globalImplicit) (hgN : sg.names.lookup xn = some .globalImplicit) (hle : sg.names.lookup en = some .local)
    (hkf : sg.kind = .function := by rfl) (hde : (ex == ("__debug__" : Str)) = false := by decide) (hdn : (xn == ("__debug__" : Str)) = false := by decide) (hd1 : (en == ("__debug__" : Str)) = false := by decide) (hd2 : (en == ("__classdict__" : Str)) = false := by decide) :
    GivesE X [ap, en] x sg g cdg [.Try [.Expr (.Call (.Name ap p1) [] [] p2) p3] [.ExceptHandler (some (.Name ex p4)) (some en) [.Return (some (.Call (.Name xn p5) [.Name en p6] [] p7)) p8] p9] [] [] p10, .Return (some (.Constant (.str "") j p11)) p12] ap q (TTE X.K cv CS T nm) := by
  intro f c' s H Q tl act hc h hr
  obtain ⟨Ech, h1, h2⟩ := h
  have hgl : Gl (gX X [ap, en] x sg g cdg s H).nox ex := hgE
  have hgn : Gl (gX X [ap, en] x sg g cdg s H).nox xn := hgN
  refine ⟨_, pss_cons (L2N.ps_try_as (X := (gX X [ap, en] x sg g cdg s H).nox) (c := .ref CS) (i := 1)
      (tb := fun W D σ H => (∀ cls d σ' H', Ech cls d H' → W cls d σ' H') ∧ σ[0]? = some (some (.ref f)) ∧ σ = L2.start [ap, en] [.ref f] ∧ H c' = some (CodeO c' q) ∧ tl Ech H fun _ H' => D.nx σ H')
      (ts := fun a cls d D σ H => d = none ∧ ∃ c z, cls = cv c ∧ nm c = some z ∧ Tabs T H ∧ (∃ σ0 : L2.St, σ = σ0.set 1 (some (.ref a))) ∧ ∀ H2, EX AS.nil H H2 → Tabs T H2 → D.rt (.str z) H2)
      rfl rfl hN rfl hle ⟨hgl, hde, .inl hmE⟩ takes0N (fun W pn xe tk _ => ?_) (fun a oe cls d pn hz hf => ?_)) (pss_one (ps_ret pe_str)), ?_⟩
  · refine ⟨fun pins s' σ H' D I ⟨hW, k1, k2, k3, k4⟩ => ?_⟩
    have hq := pss_one (ps_expr (pos := p3) (act W pn xe Ech p1 p2 tk hW) (by rfl))
    exact hq.run pins s' σ H' D I ⟨k1, k3, k4⟩
  · exact pss_one (ps_ret (pe_names (X0 := (gX X [ap, en] x sg g cdg s H).nox) B hr hz hf hgn rfl (Or.inl hle) hdn hd1 hd2))
  · refine ⟨fun cls dd σ' H' hE => ?_, rfl, rfl, hc, h1⟩
    obtain ⟨ed, c, z, e1, e2, e3, e4, e5⟩ := h2 cls dd H' hE
    refine ⟨true, e3, fun _ a ha => ⟨ed, c, z, e1, e2, e4, ⟨σ', rfl⟩, e5⟩, fun z => nomatch z⟩
/-! ### f(lambda: e) -/
theorem ER.grown {G : Gr} {O : AS} {σ : L2.St} {H H1 : Hp} {ρ : Env} (E : ER G O σ H ρ) (g : Grown H H1) (t : Tabs G.T H1) : ER G O σ H1 ρ ∧ EX O H H1 := by
  have ex : ∀ O' : AS, EX O' H H1 := fun O' => ⟨fun b o e _ n => g.ext b o e n, fun b xs e => g.ext b _ e (fun ps z => by cases z), fun b o u e => g.ext b _ e (fun ps z => by cases z), g.dom⟩
  have keep : ∀ {a : Addr} {o : OD}, OR G O H a o → OR G O H1 a o := fun h => h.ex (ex O) fun u hu n => g.ext _ _ hu n
  refine ⟨⟨E.len, E.sub, E.wsub, E.odom, fun a h => g.dom a (E.dom a h), E.ext.trans (ex _), t, fun i s h => ?_, E.inj⟩, ex O⟩
  have q := E.slot i s h
  cases s with
  | un => trivial
  | val d => obtain ⟨v, k1, k2⟩ := q; exact ⟨v, k1, k2.ex (ex O)⟩
  | own io o => obtain ⟨a, k1, k2, k3, k4⟩ := q; exact ⟨a, k1, keep k2, k3, k4⟩
def eErr (nm : String → Option Str) (f : Env → Out Rv) : Env → Out Rv := fun ρ => match f ρ with
  | .ok _ ρ1 => .ok (.val (.str "")) ρ1
  | .err c ρ1 => match nm c with
    | some z => if c = "TooMany" then .bad else .ok (.val (.str z)) ρ1
    | none => .bad
  | .bad => .bad
theorem err_in {G : Gr} {W : WX} {CS : Addr} {nm : String → Option Str} {f : Env → Out Rv} {O : AS} {σ : L2.St} {H : Hp} {ρ : Env} {Q : VK} (hx : ∀ c z, nm c = some z → PySem.W.exmOne G.K (G.cv c) (.ref CS) = some true) (E : ER G O σ H ρ) (h : ans RvR G O W σ H (eErr nm f ρ) Q) :
    tLamE G.T (TTE G.K G.cv CS G.T nm) (fun E => tr RvR G (fun cls d _ H => E cls d H) f) σ H Q := by
  refine ⟨E.tabs, fun H1 g t => ?_⟩
  obtain ⟨E1, e1⟩ := E.grown g t
  unfold eErr at h
  cases q : f ρ with
  | bad => rw [q] at h; exact h.elim
  | ok r ρ1 =>
    rw [q] at h
    refine ⟨fun _ _ _ => False, ⟨O, ρ, E1, ?_⟩, fun _ _ _ z => z.elim⟩
    rw [q]
    exact fun v H2 E2 e2 _ => ans_ok (R1 := RvR) (a := Rv.val (.str "")) h E2 (e1.trans e2) (.str _)
  | err c ρ1 =>
    rw [q] at h
    simp only at h
    cases qn : nm c with
    | none => rw [qn] at h; exact h.elim
    | some z =>
      rw [qn] at h
      simp only at h
      by_cases hc : c = "TooMany"
      · rw [if_pos hc] at h; exact h.elim
      · rw [if_neg hc] at h
        refine ⟨fun cls dd H2 => cls = G.cv c ∧ dd = none ∧ ER G O σ H2 ρ1 ∧ EX O H1 H2, ⟨O, ρ, E1, ?_⟩, fun cls dd H2 ⟨k1, k2, E2, e2⟩ => ⟨k2, c, z, k1, qn, by rw [k1]; exact hx c z qn, E2.tabs, fun H3 e3 t3 => ?_⟩⟩
        · rw [q]
          exact fun dd H2 E2 e2 => ⟨rfl, dd.2.resolve_left hc, E2, e2⟩
        · have e4 : EX O H2 H3 := e3.mono fun b z => z.elim
          have E3 : ER G O σ H3 ρ1 := by
            have ex : ∀ O' : AS, EX O' H2 H3 := fun O' => e3.mono fun b z => z.elim
            have keep : ∀ {a : Addr} {o : OD}, OR G O H2 a o → OR G O H3 a o := fun h => h.ex (ex O) fun u hu n => e3.keep _ _ hu (fun z => z) n
            refine ⟨E2.len, E2.sub, E2.wsub, E2.odom, fun a h => e3.dom a (E2.dom a h), E2.ext.trans (ex _), t3, fun i s h => ?_, E2.inj⟩
            have q := E2.slot i s h
            cases s with
            | un => trivial
            | val d => obtain ⟨v, k1, k2⟩ := q; exact ⟨v, k1, k2.ex (ex O)⟩
            | own io o => obtain ⟨a, k1, k2, k3, k4⟩ := q; exact ⟨a, k1, keep k2, k3, k4⟩
          exact ans_ok (R1 := RvR) (a := Rv.val (.str z)) h E3 ((e1.trans e2).trans e4) (.str _)
end
end EL

/-! E21: defs that make lambdas; the law's end. -/
namespace EL
open PySem PySem.Spec PyProof.Rows L2 HotX LamX
section
variable {P : Program} {w : World} {K : PySem.W.Frag} {mg : Str → Option Value} {base : Heap} {x qual : Str} {params : Arguments} {body : List Stmt} {scope : Scope} {fd : FuncData} {cv : String → Value} {T : List (Addr × Str)}
theorem fn_okC {CX : CXT} {N ps : List Str} {k : Nat} {fb : Env → SO} (F : FunD K x qual params body scope [] [] (He.ga K x) fd) (S : FnScope N ps scope) (hN : ps.length ≤ N.length)
    (hb : ∀ (A : Around) (outer : List PySem.Env) (s : Shared) (H : Hp) (E : XK) (O : AS) (vs : List V) (as : List Slot), Room k (A.deeper (envOfC qual scope s.heap.objs.size (He.ga K x) (.ref (He.codeOf K (x, none))))) → Bv (cxOf CX P w K mg base N qual scope (He.ga K x) (.ref (He.codeOf K (x, none))) A outer s H E) (Gf K cv T O H vs as) (fun cls d _ H => E cls d H) body fb) :
    FnOk P w K mg base CX (k + 1) (He.ga K x) fd ps (spG K cv T (mOf ps.length N.length fb)) := by
  have lenA : ∀ {as : List Slot}, (∀ Q E O H vs, ansG K cv T O H vs as (mOf ps.length N.length fb as) Q E → as.length = ps.length) := fun {as} Q E O H vs h => by
    unfold mOf at h
    split at h
    · assumption
    · exact h.elim
  obtain ⟨oc, od, dV, kV, doc, pm, an, cdv, ct, osl, rfl, lk, hcd, _, _⟩ := F.ex
  obtain ⟨c, ec⟩ := He.codeIn_ref hcd
  have ec2 : He.codeOf K (x, none) = c := He.codeOf_eq (p := (x, none)) lk ec
  refine fn_of lk hcd S (fun vs H Q E h => ?_) fun A outer s H vs Q E hr h => ?_
  · obtain ⟨O, as, _, _, r, _, h⟩ := h
    rw [r.len]
    exact lenA Q E O H vs h
  · obtain ⟨O, as, hd, ht, r, hi, h⟩ := h
    have e : cdv = .ref (He.codeOf K (x, none)) := by rw [ec2]; exact ec
    subst e
    exact ⟨_, hb A outer s H E O vs as hr, fr_end (lenA Q E O H vs h) hN hd ht r hi h⟩
theorem fk_ofC {N ps : List Str} {k n m : Nat} {fb : Env → SO} (F : FunD K x qual params body scope [] [] (He.ga K x) fd) (hm : mg x = some (.ref (He.ga K x))) (S : FnScope N ps scope)
    (hbi : ∀ (kV doc pm : Value) (an : Option Addr) (cdv ct : Value) (us : List Value), us.length = ps.length → bindArgs (PySem.W.fnOf x qual params body scope .none kV doc pm an cdv ct) ⟨us, []⟩ = pure (ps.zip us))
    (hb : ∀ (A : Around) (outer : List PySem.Env) (s : Shared) (H : Hp) (E : XK) (O : AS) (vs : List V) (as : List Slot), Room k (A.deeper (envOfC qual scope s.heap.objs.size (He.ga K x) (.ref (He.codeOf K (x, none))))) → Bv (cxOf (L2N.CX P w) P w K mg base N qual scope (He.ga K x) (.ref (He.codeOf K (x, none))) A outer s H E) (Gf K cv T O H vs as) (fun cls d _ H => E cls d H) body fb)
    (hn : ps.length = n := by rfl) (hN : N.length = m := by rfl) (hle : n ≤ m := by decide) : FK P w K mg base cv T x (k + 1) (mOf n m fb) :=
  ⟨He.ga K x, fd, ps, hm, F.kp, F.bindsN hbi, by
    subst hn hN
    exact fn_okC F S hle hb⟩
end
section
variable {X : Cx} {G : Gr} {W : WX}
theorem ev_err {x ap en : Str} {g c P CS : Addr} {k : Nat} {pg : Arguments} {bg : List Stmt} {sg : Scope} {fdg : FuncData} {params : Arguments} {body : Expr} {scope : Scope} {fb : Env → Out Rv} {nm : String → Option Str} {p lpos pos : Pos}
    (hg : Gl X x) (hm : X.mg x = some (.ref g)) (F : FunD X.K x x pg bg sg [] [] g fdg) (hb : L2.Binds X.K fdg [ap] []) (Sg : FnScope [ap, en] [ap] sg) (hva : Vis sg ap) (hG : ∀ cdg, GivesE X [ap, en] x sg g cdg bg ap (X.env.qual ++ "<lambda>") (TTE X.K G.cv CS G.T nm)) (TB : TabB X.base X.mg c P) (hmT : (P, X.env.qual ++ "<lambda>") ∈ G.T) (hu : ∀ p ∈ G.T, p.1 = P → p.2 = X.env.qual ++ "<lambda>")
    (hx : ∀ c z, nm c = some z → PySem.W.exmOne X.K (G.cv c) (.ref CS) = some true) (hr : Room (k + 2) X.A) (L : LamS X.env.scope scope)
    (hbody : ∀ (A : Around) (outer : List PySem.Env) (s : Shared) (H : Hp) (E : XK) (f c' : Addr), Room k (A.deeper (lamEnv X scope s.heap.objs.size f c')) → Ev (lamE X A outer s H E scope f c') G (fun cls d _ H => E cls d H) body fb) (hK : X.K = G.K := by rfl) (hcode : X.env.code = .ref c := by rfl) (hdef : defaultsOf params X.env = ([], []) := by rfl)
    (hbind : ∀ (q : Str) (cl : List (Str × Addr)) (pm cv ctv : Value), bindArgs (PySem.W.kla_fn "<lambda>" q params body scope cl pm cv ctv) ⟨[], []⟩ = pure [] := by intros; rfl) (hdb : (x == ("__debug__" : Str)) = false := by decide) (hd : (ap == ("__debug__" : Str)) = false := by decide) (hcd : (ap == ("__classdict__" : Str)) = false := by decide) :
    Ev X G W (.Call (.Name x p) [.Lambda params body scope lpos] [] pos) (eErr nm fb) :=
  PEw_ (pe_lamE hg hm F hb Sg rfl hva hG TB hcode hmT hu hr L hdef hbind hbody hdb hd hcd) fun σ H Q ⟨O, ρ, E, a⟩ => by
    rw [hK]
    exact err_in (fun c z h => by rw [← hK]; exact hx c z h) E a
end
/-! ### the law's end -/
theorem sqF_of {K : PySem.W.Frag} {H : Hp} {a : Addr} {xs : List V} (h : SqL K H a xs) : SqF K AS.nil H a xs := h.elim (fun h => .inl ⟨h, fun z => z⟩) .inr
theorem ints_rpa {G : Gr} {O : AS} {H : Hp} : ∀ ns : List Int, RpA G.K G.cv O H (ns.map V.int) (ns.map D.int)
  | [] => .nil
  | n :: ns => .cons (.int n) (ints_rpa ns)
theorem law_promise {K : PySem.W.Frag} {cv : String → Value} {T : List (Addr × Str)} {m : List Slot → FR} {ns : List Int} {H : Hp} {a : Addr} (h : m [.val (.lst (ns.map .int))] = .ok (.bl true) [.val (.lst (ns.map .int))]) (hT : ∀ p ∈ T, H p.1 = some (.tbl #[])) (hs : SqL K H a (ns.map V.int)) : spG K cv T m [.ref a] H (fun v _ => v = .bl true) fun _ _ _ => False := by
  refine ⟨AS.nil, [.val (.lst (ns.map .int))], fun _ z => z.elim, fun p hp => TabS.nil (hT p hp), .val (.lst (sqF_of hs) (ints_rpa (G := Gb K cv T) ns)) .nil, fun i j b io io' o o' h1 _ _ _ => ?_, ?_⟩
  · cases i with
    | zero => cases h1
    | succ i => simp at h1
  · rw [h]
    intro v H' _ _ _ r
    cases r
    rfl
end EL

/-! E22: what a head is asked beside the rest. -/
namespace EL
open PySem PySem.Spec PyProof.Rows L2 HotX LamX
def excCB (K : PySem.W.Frag) (D : Addr) : Bool := He.eqO (PySem.W.findIn K (.ref D) "__getattribute__") (some (some (.builtin "BaseException.__getattribute__"))) && (He.eqO (PySem.W.findIn K (.ref D) "__getattr__") (some none) && (decide (PySem.W.subIn K (.ref D) (.type "BaseException") = some true) && (PySem.W.hasDictIn K D &&
  (He.eqO (PySem.W.findIn K (.ref D) "__class__") (some (some (.builtin "object.__class__"))) && (He.eqO (PySem.W.specialIn K (.builtin "object.__class__") "__get__") (some (some (.builtin "getset_descriptor.__get__"))) && (decide (PySem.W.takesIn K (.builtin "object.__class__") = some true) && decide (PySem.W.mroIn K D (.type "object") = some true)))))))
theorem excCB_ok {K : PySem.W.Frag} {D : Addr} (h : excCB K D = true) : ExcC K D := by
  unfold excCB at h
  obtain ⟨h1, h⟩ := He.ba h
  obtain ⟨h2, h⟩ := He.ba h
  obtain ⟨h3, h⟩ := He.ba h
  obtain ⟨h4, h⟩ := He.ba h
  obtain ⟨h5, h⟩ := He.ba h
  obtain ⟨h6, h⟩ := He.ba h
  obtain ⟨h7, h8⟩ := He.ba h
  exact ⟨He.eqO_ok h1, He.eqO_ok h2, of_decide_eq_true h3, h4, He.eqO_ok h5, He.eqO_ok h6, of_decide_eq_true h7, of_decide_eq_true h8⟩
abbrev gaS (K : PySem.W.Frag) (c : String) : Addr := He.ga K (Str.ofString c)
def clsB (K : PySem.W.Frag) (pl all : List String) (b : String) : Bool := pl.all fun c => excCB K (gaS K c) && ((all.all fun C => decide (PySem.W.kitOne K (.ref (gaS K c)) (.ref (gaS K C)) = some (decide (c = C)))) && (decide (PySem.W.kitOne K (.ref (gaS K c)) (.type "ValueError") = some true) && decide (PySem.W.exmOne K (.ref (gaS K c)) (.ref (gaS K b)) = some true)))
structure ClsK (K : PySem.W.Frag) (pl all : List String) (b : String) : Prop where
  ex : ∀ c ∈ pl, ExcC K (gaS K c)
  kit : ∀ c ∈ pl, ∀ C ∈ all, PySem.W.kitOne K (.ref (gaS K c)) (.ref (gaS K C)) = some (decide (c = C))
  kitV : ∀ c ∈ pl, PySem.W.kitOne K (.ref (gaS K c)) (.type "ValueError") = some true
  exm : ∀ c ∈ pl, PySem.W.exmOne K (.ref (gaS K c)) (.ref (gaS K b)) = some true
theorem clsB_ok {K : PySem.W.Frag} {pl all : List String} {b : String} (h : clsB K pl all b = true) : ClsK K pl all b := by
  unfold clsB at h
  rw [List.all_eq_true] at h
  refine ⟨fun c hc => excCB_ok (He.ba (h c hc)).1, fun c hc C hC => ?_, fun c hc => ?_, fun c hc => ?_⟩
  · have := (He.ba (He.ba (h c hc)).2).1
    rw [List.all_eq_true] at this
    exact of_decide_eq_true (this C hC)
  · exact of_decide_eq_true (He.ba (He.ba (He.ba (h c hc)).2).2).1
  · exact of_decide_eq_true (He.ba (He.ba (He.ba (h c hc)).2).2).2
/-- the tables of defs -/
def tabK (K : PySem.W.Frag) (x : Str) : Addr := He.tabOf K (He.codeOf K (x, none))
def apartB (K : PySem.W.Frag) (xs : List Str) : Bool := decide ((xs.map (tabK K)).Nodup)
theorem uniq_tab {T : List (Addr × Str)} (h : (T.map (·.1)).Nodup) {P : Addr} {q : Str} (m : (P, q) ∈ T) : ∀ p ∈ T, p.1 = P → p.2 = q := fun p hp e => by
  induction T with
  | nil => cases hp
  | cons t T ih =>
    rw [List.map_cons, List.nodup_cons] at h
    rcases List.mem_cons.mp hp with z | z
    · rcases List.mem_cons.mp m with y | y
      · rw [z, ← y]
      · exact absurd (List.mem_map.mpr ⟨_, y, by rw [← e, z]⟩) h.1
    · rcases List.mem_cons.mp m with y | y
      · exact absurd (List.mem_map.mpr ⟨_, z, by rw [e, ← y]⟩) h.1
      · exact ih h.2 y z
/-! ### a, b, c = x, y, z -/
def sPar3 (i j l : Nat) (fr : Env → Out (List Rv)) : Env → SO := fun ρ => (fr ρ).so fun rs ρ1 => match storeAll rs with
  | some [a, b, c] => .next (((ρ1.set i (.val a)).set j (.val b)).set l (.val c))
  | _ => .bad
theorem sv_par3 {X : Cx} {G : Gr} {W : WX} (i j l : Nat) {x y z : Str} {a b c : Expr} {fr : Env → Out (List Rv)} {px py pz pt pos : Pos} {kt k2 pt2} (ha : Av X G W [a, b, c] fr) (hN : X.N.Nodup) (hij : i ≠ j := by decide) (hil : i ≠ l := by decide) (hjl : j ≠ l := by decide) (hi : X.N[i]? = some x := by rfl) (hj : X.N[j]? = some y := by rfl) (hl : X.N[l]? = some z := by rfl)
    (hx : X.env.scope.names.lookup x = some .local := by rfl) (hy : X.env.scope.names.lookup y = some .local := by rfl) (hz : X.env.scope.names.lookup z = some .local := by rfl) (hw : swappedStores [.Tuple [.Name x px, .Name y py, .Name z pz] kt pt] (.Tuple [a, b, c] k2 pt2) X.env = pure (some [x, y, z]) := by rfl)
    (hs : swapsWithSole [.Tuple [.Name x px, .Name y py, .Name z pz] kt pt] (.Tuple [a, b, c] k2 pt2) pos.line X.env = pure false := by rfl) (hc : X.calm = true := by rfl) : Sv X G W (.Assign [.Tuple [.Name x px, .Name y py, .Name z pz] kt pt] (.Tuple [a, b, c] k2 pt2) pos) (sPar3 i j l fr) :=
  PSw_ (ps_par3 hc hN hi hj hl hij hil hjl hx hy hz ha hw hs) fun Dn σ H ⟨O, ρ, E, h⟩ => ⟨O, ρ, E, ansS_in (R1 := RvA) (k := fun rs ρ1 => match storeAll rs with
  | some [a, b, c] => .next (((ρ1.set i (.val a)).set j (.val b)).set l (.val c))
  | _ => .bad) h fun rs ρ1 vs H1 E1 e1 r1 a1 => by
    cases q : storeAll rs with
    | none => rw [q] at a1; exact a1.elim
    | some ds =>
      rw [q] at a1
      have rr := r1.all q
      match ds, rr, a1 with
      | [d1, d2, d3], .cons h1 (.cons h2 (.cons h3 .nil)), a1 => exact ⟨_, _, _, rfl, ansS_next a1 (((E1.set i h1).set j h2).set l h3)⟩
      | [], _, a1 => exact a1.elim
      | [_], _, a1 => exact a1.elim
      | [_, _], _, a1 => exact a1.elim
      | _ :: _ :: _ :: _ :: _, _, a1 => exact a1.elim⟩
theorem lookup_fst {β : Type} {c : String} {z : β} : ∀ {l : List (String × β)}, l.lookup c = some z → c ∈ l.map (·.1)
  | [], h => by cases h
  | (k, v) :: l, h => by
    rw [List.lookup_cons] at h
    cases q : (c == k) with
    | true => rw [List.map_cons, beq_iff_eq.mp q]; exact List.mem_cons_self
    | false => rw [q] at h; exact List.mem_cons_of_mem _ (lookup_fst h)
end EL

/-! E23: the plain side evaluated. -/
namespace EL
open PySem PySem.Spec PyProof.Rows L2
section
variable (ρ : EL.Env)
@[simp] theorem sSeq_e (f g : EL.Env → SO) : sSeq f g ρ = (f ρ).then g := rfl
@[simp] theorem sIf_e (ft : EL.Env → Out Bool) (f g : EL.Env → SO) : sIf ft f g ρ = (ft ρ).so fun b ρ1 => if b = true then f ρ1 else g ρ1 := rfl
@[simp] theorem sRet_e (f : EL.Env → Out Rv) : sRet f ρ = (f ρ).so fun r ρ1 => .ret r ρ1 := rfl
@[simp] theorem sRetF_e (f : EL.Env → Out (List D)) : sRetF f ρ = (f ρ).so fun r ρ1 => .retF r ρ1 := rfl
@[simp] theorem sExpr_e (f : EL.Env → Out Rv) : sExpr f ρ = (f ρ).so fun _ ρ1 => .next ρ1 := rfl
@[simp] theorem sSet_e (i : Nat) (f : EL.Env → Out Rv) : sSet i f ρ = (f ρ).so fun r ρ1 => SO.of (r.store.map fun d => ρ1.set i (.val d)) := rfl
@[simp] theorem sOwn_e (i : Nat) (f : EL.Env → Out (List D)) : sOwn i f ρ = (f ρ).so fun ds ρ1 => .next (ρ1.set i (.own false (.lst ds))) := rfl
@[simp] theorem sNew_e (i : Nat) (f : EL.Env → Out NV) : sNew i f ρ = (f ρ).so fun n ρ1 => .next (putN1 i n ρ1) := rfl
@[simp] theorem sPar_e (i j : Nat) (fa fb : EL.Env → Out NV) : sPar i j fa fb ρ = (fa ρ).so fun n ρ1 => (fb ρ1).so fun m ρ2 => .next (putN1 i n (putN1 j m ρ2)) := rfl
@[simp] theorem sRaise_e (c : String) : sRaise c ρ = .err c ρ := rfl
@[simp] theorem sPut_e (k : Nat) (fe fi : EL.Env → Out Rv) : sPut k fe fi ρ = (fe ρ).so fun r ρ1 => match r, lstAt k ρ1 with
  | .val d, some _ => (fi ρ1).so fun ri ρ2 => SO.of (putN k d ri ρ2)
  | _, _ => .bad := rfl
@[simp] theorem eName_e (i : Nat) : eName i ρ = match ρ[i]? with
  | some (.val d) => .ok (.val d) ρ
  | some (.own _ _) => .ok (.slot i) ρ
  | _ => .bad := rfl
@[simp] theorem eK_e (d : D) : eK d ρ = .ok (.val d) ρ := rfl
@[simp] theorem eBin_e (g : D → D → Option D) (fa fb : EL.Env → Out Rv) : eBin g fa fb ρ = (fa ρ).bind fun x ρ1 => (fb ρ1).bind fun y ρ2 => ap2 g x y ρ2 := rfl
@[simp] theorem eIf_e (ft : EL.Env → Out Bool) (fa fb : EL.Env → Out Rv) : eIf ft fa fb ρ = (ft ρ).bind fun b ρ1 => if b = true then fa ρ1 else fb ρ1 := rfl
@[simp] theorem eNot_e (fa : EL.Env → Out Rv) : eNot fa ρ = (fa ρ).bind fun x ρ1 => Out.of ((truR x ρ1).map fun b => Rv.val (.bl (!b))) ρ1 := rfl
@[simp] theorem eNeg_e (fa : EL.Env → Out Rv) : eNeg fa ρ = (fa ρ).bind fun x ρ1 => Out.of ((negO x).map Rv.val) ρ1 := rfl
@[simp] theorem eAnd_e (fa fb : EL.Env → Out Rv) : eAnd fa fb ρ = (fa ρ).bind fun x ρ1 => match truR x ρ1 with
  | some true => fb ρ1
  | some false => .ok x ρ1
  | none => .bad := rfl
@[simp] theorem eOr_e (fa fb : EL.Env → Out Rv) : eOr fa fb ρ = (fa ρ).bind fun x ρ1 => match truR x ρ1 with
  | some true => .ok x ρ1
  | some false => fb ρ1
  | none => .bad := rfl
@[simp] theorem eChain_e (g g' : D → D → Option D) (fa fb fc : EL.Env → Out Rv) : eChain g g' fa fb fc ρ = (fa ρ).bind fun x ρ1 => (fb ρ1).bind fun y ρ2 => (ap2 g x y ρ2).bind fun z ρ3 =>
  match tBoolO z with
  | some true => (fc ρ3).bind fun w ρ4 => ap2 g' y w ρ4
  | some false => .ok (.val (.bl false)) ρ3
  | none => .bad := rfl
@[simp] theorem aNil_e : aNil ρ = .ok [] ρ := rfl
@[simp] theorem aCons_e (fa : EL.Env → Out Rv) (fr : EL.Env → Out (List Rv)) : aCons fa fr ρ = (fa ρ).bind fun x ρ1 => (fr ρ1).bind fun xs ρ2 => .ok (x :: xs) ρ2 := rfl
@[simp] theorem eTup_e (fr : EL.Env → Out (List Rv)) : eTup fr ρ = (fr ρ).bind fun rs ρ1 => Out.of ((storeL rs).map fun ds => Rv.val (.tup ds)) ρ1 := rfl
@[simp] theorem eLst_e (fr : EL.Env → Out (List Rv)) : eLst fr ρ = (fr ρ).bind fun rs ρ1 => Out.of ((storeL rs).map fun ds => Rv.val (.lst ds)) ρ1 := rfl
@[simp] theorem fLst_e (fr : EL.Env → Out (List Rv)) : fLst fr ρ = (fr ρ).bind fun rs ρ1 => Out.of (storeL rs) ρ1 := rfl
@[simp] theorem eCallV_e (g : List D → Option D) (fr : EL.Env → Out (List Rv)) : eCallV g fr ρ = (fr ρ).bind fun rs ρ1 => Out.of (((derefAll rs ρ1).bind g).map Rv.val) ρ1 := rfl
@[simp] theorem eIsi_e (T : String) (f : EL.Env → Out Rv) : eIsi T f ρ = (f ρ).bind fun r ρ1 => Out.of (((deref r ρ1).bind (isiD T)).map Rv.val) ρ1 := rfl
@[simp] theorem tTru_e (f : EL.Env → Out Rv) : tTru f ρ = (f ρ).bind fun r ρ1 => Out.of (truR r ρ1) ρ1 := rfl
@[simp] theorem tBl_e (f : EL.Env → Out Rv) : tBl f ρ = (f ρ).bind fun r ρ1 => Out.of (tBoolO r) ρ1 := rfl
@[simp] theorem tAndB_e (f g : EL.Env → Out Bool) : tAndB f g ρ = (f ρ).bind fun b ρ1 => if b = true then g ρ1 else .ok false ρ1 := rfl
@[simp] theorem tOrB_e (f g : EL.Env → Out Bool) : tOrB f g ρ = (f ρ).bind fun b ρ1 => if b = true then .ok true ρ1 else g ρ1 := rfl
@[simp] theorem tNotB_e (f : EL.Env → Out Bool) : tNotB f ρ = (f ρ).bind fun b ρ1 => .ok (!b) ρ1 := rfl
@[simp] theorem tYesB_e : tYesB ρ = .ok true ρ := rfl
@[simp] theorem eNew_e (f : EL.Env → Out NV) : eNew f ρ = (f ρ).bind fun n ρ1 => match n with
  | .val d => .ok (.val d) ρ1
  | .new o => Out.of ((ownD o).map Rv.val) ρ1 := rfl
@[simp] theorem fNew_e (f : EL.Env → Out NV) : fNew f ρ = (f ρ).bind fun n ρ1 => match n with
  | .new (.lst ds) => .ok ds ρ1
  | _ => .bad := rfl
@[simp] theorem nEv_e (f : EL.Env → Out Rv) : nEv f ρ = (f ρ).bind fun r ρ1 => Out.of (r.store.map NV.val) ρ1 := rfl
@[simp] theorem nFv_e (f : EL.Env → Out (List D)) : nFv f ρ = (f ρ).bind fun ds ρ1 => .ok (.new (.lst ds)) ρ1 := rfl
@[simp] theorem eFresh_e (f : EL.Env → Out (List D)) : eFresh f ρ = (f ρ).bind fun ds ρ1 => .ok (.val (.lst ds)) ρ1 := rfl
@[simp] theorem nCall_e (m : List EL.Slot → FR) (fr : EL.Env → Out (List Rv)) : nCall m fr ρ = (fr ρ).bind (callN m) := rfl
@[simp] theorem eSl_e (f : EL.Env → Out Rv) (fl fh : EL.Env → Out (Option Int)) : eSl f fl fh ρ = (f ρ).bind fun x ρ1 => (fl ρ1).bind fun lo ρ2 => (fh ρ2).bind fun hi ρ3 => Out.of (((deref x ρ3).bind fun d => slD d lo hi).map Rv.val) ρ3 := rfl
@[simp] theorem poNone_e : poNone ρ = .ok none ρ := rfl
@[simp] theorem poSome_e (f : EL.Env → Out Rv) : poSome f ρ = (f ρ).bind fun r ρ1 => Out.of (intO r) ρ1 := rfl
@[simp] theorem iSeq_e (f : EL.Env → Out Rv) : iSeq f ρ = (f ρ).bind fun r ρ1 => Out.of (srcO r ρ1) ρ1 := rfl
@[simp] theorem iRng_e (g : List Rv → Option CSrc) (f : EL.Env → Out (List Rv)) : iRng g f ρ = (f ρ).bind fun rs ρ1 => Out.of (g rs) ρ1 := rfl
@[simp] theorem gSet_e (i : Nat) (d : D) : gSet i d ρ = some (ρ.set i (.val d)) := rfl
@[simp] theorem eMeth_e (op : List D → List D → Option (D × List D)) (k : Nat) (fr : EL.Env → Out (List Rv)) : eMeth op k fr ρ = match lstAt k ρ with
  | some _ => (fr ρ).bind (mAnsw op k)
  | none => .bad := rfl
@[simp] theorem ap2_e (g : D → D → Option D) (x y : Rv) : ap2 g x y ρ = match deref x ρ, deref y ρ with
  | some d, some e => Out.of ((g d e).map Rv.val) ρ
  | _, _ => .bad := rfl
@[simp] theorem truR_e (r : Rv) : truR r ρ = (deref r ρ).bind truD := rfl
@[simp] theorem deref_s (i : Nat) : deref (.slot i) ρ = match ρ[i]? with
  | some (.own _ o) => ownD o
  | _ => none := rfl
@[simp] theorem lstAt_e (k : Nat) : lstAt k ρ = match ρ[k]? with
  | some (.own io (.lst xs)) => some (io, xs)
  | _ => none := rfl
@[simp] theorem putN_e (k : Nat) (d : D) (i : Int) : putN k d (.val (.int i)) ρ = match lstAt k ρ with
  | some (io, xs) => (ixN xs.length i).map fun j => ρ.set k (.own io (.lst (xs.set j d)))
  | _ => none := by
  unfold putN
  cases lstAt k ρ <;> rfl
@[simp] theorem ownD_lst (xs : List D) : ownD (.lst xs) = some (.lst xs) := rfl
@[simp] theorem tBoolO_v (b : Bool) : tBoolO (.val (.bl b)) = some b := rfl
@[simp] theorem argsOf_slot (k : Nat) (rs : List Rv) : argsOf (.slot k :: rs) ρ = match ρ[k]? with
  | some (.own _ o) => (argsOf rs ρ).map (.own true o :: ·)
  | _ => none := by
  show (match argOf (.slot k) ρ, argsOf rs ρ with | some s, some as => some (s :: as) | _, _ => none) = _
  simp only [argOf]
  cases ρ[k]? with
  | none => rfl
  | some s => cases s <;> cases argsOf rs ρ <;> rfl
@[simp] theorem backA_slot (k : Nat) (rs : List Rv) (io : Bool) (o : OD) (as : List EL.Slot) : backA (.slot k :: rs) (.own io o :: as) ρ = match ρ[k]? with
  | some (.own io _) => backA rs as (ρ.set k (.own io o))
  | _ => none := rfl
@[simp] theorem callN_e (m : List EL.Slot → FR) (rs : List Rv) : callN m rs ρ = match argsOf rs ρ with
  | none => .bad
  | some as => if apart rs = true then match m as with
      | .ok d as' => match backA rs as' ρ with
        | some ρ' => .ok (.val d) ρ'
        | none => .bad
      | .new o as' => match backA rs as' ρ with
        | some ρ' => .ok (.new o) ρ'
        | none => .bad
      | .err c as' => match backA rs as' ρ with
        | some ρ' => .err c ρ'
        | none => .bad
      | .bad => .bad
    else .bad := rfl
@[simp] theorem isSlot_s (k j : Nat) : isSlot k (.slot j) = (j == k) := rfl
@[simp] theorem isSlot_v (k : Nat) (d : D) : isSlot k (.val d) = false := rfl
end
theorem mOf_eq {n N : Nat} {fb : EL.Env → SO} {as : List EL.Slot} (h : as.length = n) : mOf n N fb as = frOf as (fb (as ++ List.replicate (N - n) .un)) := by unfold mOf; rw [if_pos h]
@[simp] theorem frOf_ret (as : List EL.Slot) (d : D) (ρ : EL.Env) : frOf as (.ret (.val d) ρ) = match outA as ρ with | some as' => .ok d as' | none => .bad := rfl
@[simp] theorem frOf_next (as : List EL.Slot) (ρ : EL.Env) : frOf as (.next ρ) = match outA as ρ with | some as' => .ok .non as' | none => .bad := rfl
@[simp] theorem frOf_retF (as : List EL.Slot) (ds : List D) (ρ : EL.Env) : frOf as (.retF ds ρ) = match outA as ρ with | some as' => .new (.lst ds) as' | none => .bad := rfl
@[simp] theorem frOf_err (as : List EL.Slot) (c : String) (ρ : EL.Env) : frOf as (.err c ρ) = match outA as ρ with | some as' => .err c as' | none => .bad := rfl
@[simp] theorem addD_i (i j : Int) : addD (.int i) (.int j) = some (.int (i + j)) := rfl
@[simp] theorem subD_i (i j : Int) : subD (.int i) (.int j) = some (.int (i - j)) := rfl
@[simp] theorem mulD_i (i j : Int) : mulD (.int i) (.int j) = if cMulB i j = true then some (.int (i * j)) else none := rfl
@[simp] theorem gtD_i (i j : Int) : gtD (.int i) (.int j) = some (.bl (decide (j < i))) := rfl
@[simp] theorem leD_i (i j : Int) : leD (.int i) (.int j) = some (.bl (decide (i ≤ j))) := rfl
@[simp] theorem geD_i (i j : Int) : geD (.int i) (.int j) = some (.bl (decide (j ≤ i))) := rfl
@[simp] theorem ltD_i (i j : Int) : ltD (.int i) (.int j) = some (.bl (decide (i < j))) := rfl
@[simp] theorem fdivD_i (i j : Int) : fdivD (.int i) (.int j) = if decide (0 < j ∧ j < 1073741824) = true then some (.int (i / j)) else none := rfl
@[simp] theorem modD_i (i j : Int) : modD (.int i) (.int j) = if decide (0 < j) = true then some (.int (i % j)) else none := rfl
@[simp] theorem intD_i (i : Int) : intD [.int i] = some (.int i) := rfl
@[simp] theorem ixD_l (xs : List D) (i : Int) : ixD (.lst xs) (.int i) = atI xs i := rfl
@[simp] theorem ixD_t (xs : List D) (i : Int) : ixD (.tup xs) (.int i) = atI xs i := rfl
@[simp] theorem atI_0 {α} (x : α) (xs : List α) : atI (x :: xs) 0 = some x := by simp [atI, ixN]
@[simp] theorem atI_1 {α} (x y : α) (xs : List α) : atI (x :: y :: xs) 1 = some y := by
  unfold atI ixN
  rw [if_pos (by decide), if_pos (by simp; omega)]
  rfl
@[simp] theorem ixN_20 : ixN 2 0 = some 0 := rfl
@[simp] theorem ixN_21 : ixN 2 1 = some 1 := rfl
end EL

/-! E24: loops and comprehensions on the plain side. -/
namespace EL
open PySem PySem.Spec PyProof.Rows L2
@[simp] theorem CSrc.of_n (ds : List D) : (CSrc.of ds).n = ds.length := rfl
@[simp] theorem CSrc.of_it (ds : List D) (i : Nat) (ρ : EL.Env) : (CSrc.of ds).it i ρ = ds[i]? := rfl
@[simp] theorem CSrc.of_fin (ds : List D) (ρ : EL.Env) : (CSrc.of ds).fin ρ = true := rfl
@[simp] theorem CSrc.of_slot (ds : List D) : (CSrc.of ds).slot = none := rfl
@[simp] theorem srcO_lst (ds : List D) (ρ : EL.Env) : srcO (.val (.lst ds)) ρ = some (.of ds) := rfl
@[simp] theorem srcO_tup (ds : List D) (ρ : EL.Env) : srcO (.val (.tup ds)) ρ = some (.of ds) := rfl
/-- a turn goes on, or the def ends there -/
theorem forN_go {c : CSrc} {tg : Tg} {fb : EL.Env → SO} {n : Nat} (I : Nat → EL.Env → Prop) (R : Rv → EL.Env → Prop)
    (step : ∀ i ρ, i < n → I i ρ → ∃ d ρ1, c.it i ρ = some d ∧ tg d ρ = some ρ1 ∧ ((∃ ρ2, fb ρ1 = .next ρ2 ∧ I (i + 1) ρ2) ∨ ∃ r ρ2, fb ρ1 = .ret r ρ2 ∧ R r ρ2))
    (fin : ∀ ρ, I n ρ → c.fin ρ = true) : ∀ (k i : Nat) (ρ : EL.Env), i + k = n → I i ρ → (∃ ρ', forN c tg fb k i ρ = .next ρ' ∧ I n ρ') ∨ ∃ r ρ', forN c tg fb k i ρ = .ret r ρ' ∧ R r ρ'
  | 0, i, ρ, e, h => by
    have e2 : i = n := e
    subst e2
    refine .inl ⟨ρ, ?_, h⟩
    show (if c.fin ρ = true then SO.next ρ else .bad) = _
    rw [if_pos (fin ρ h)]
  | k + 1, i, ρ, e, h => by
    obtain ⟨d, ρ1, h1, h2, h3⟩ := step i ρ (by omega) h
    have e1 : forN c tg fb (k + 1) i ρ = (fb ρ1).loop fun ρ2 => forN c tg fb k (i + 1) ρ2 := by
      show (match c.it i ρ with
        | none => SO.bad
        | some d => match tg d ρ with
          | none => .bad
          | some ρ1 => (fb ρ1).loop fun ρ2 => forN c tg fb k (i + 1) ρ2) = _
      rw [h1]
      show (match tg d ρ with
          | none => SO.bad
          | some ρ1 => (fb ρ1).loop fun ρ2 => forN c tg fb k (i + 1) ρ2) = _
      rw [h2]
    rw [e1]
    rcases h3 with ⟨ρ2, h3, h4⟩ | ⟨r, ρ2, h3, h4⟩
    · rw [h3]
      exact forN_go I R step fin k (i + 1) ρ2 (by omega) h4
    · rw [h3]
      exact .inr ⟨r, ρ2, rfl, h4⟩
/-- over a list: what holds of the part behind us -/
theorem forL {ds : List D} {tg : Tg} {fb : EL.Env → SO} {ρ : EL.Env} (I : List D → EL.Env → Prop) (h0 : I [] ρ)
    (step : ∀ pre d post ρ, ds = pre ++ d :: post → I pre ρ → ∃ ρ1 ρ2, tg d ρ = some ρ1 ∧ fb ρ1 = .next ρ2 ∧ I (pre ++ [d]) ρ2) : ∃ ρ', forN (.of ds) tg fb ds.length 0 ρ = .next ρ' ∧ I ds ρ' := by
  have h := forN_go (c := .of ds) (tg := tg) (fb := fb) (n := ds.length) (fun i ρ => I (ds.take i) ρ) (fun _ _ => False) (fun i ρ hi h => by
    have e : ds = ds.take i ++ ds[i] :: ds.drop (i + 1) := by rw [List.getElem_cons_drop, List.take_append_drop]
    obtain ⟨ρ1, ρ2, h1, h2, h3⟩ := step _ _ _ ρ e h
    refine ⟨ds[i], ρ1, List.getElem?_eq_getElem hi, h1, .inl ⟨ρ2, h2, ?_⟩⟩
    show I (ds.take (i + 1)) ρ2
    rw [List.take_succ_eq_append_getElem hi]
    exact h3) (fun _ _ => rfl) ds.length 0 ρ (by omega) (by simpa using h0)
  rcases h with ⟨ρ', h1, h2⟩ | ⟨_, _, _, z⟩
  · refine ⟨ρ', h1, ?_⟩
    have h2 : I (ds.take ds.length) ρ' := h2
    rwa [List.take_length] at h2
  · exact z.elim
/-- .. one that may end the def -/
theorem forLx {ds : List D} {tg : Tg} {fb : EL.Env → SO} {ρ : EL.Env} (I : List D → EL.Env → Prop) (R : Rv → EL.Env → Prop) (h0 : I [] ρ)
    (step : ∀ pre d post ρ, ds = pre ++ d :: post → I pre ρ → ∃ ρ1, tg d ρ = some ρ1 ∧ ((∃ ρ2, fb ρ1 = .next ρ2 ∧ I (pre ++ [d]) ρ2) ∨ ∃ r ρ2, fb ρ1 = .ret r ρ2 ∧ R r ρ2)) :
    (∃ ρ', forN (.of ds) tg fb ds.length 0 ρ = .next ρ' ∧ I ds ρ') ∨ ∃ r ρ', forN (.of ds) tg fb ds.length 0 ρ = .ret r ρ' ∧ R r ρ' := by
  have h := forN_go (c := .of ds) (tg := tg) (fb := fb) (n := ds.length) (fun i ρ => I (ds.take i) ρ) R (fun i ρ hi h => by
    have e : ds = ds.take i ++ ds[i] :: ds.drop (i + 1) := by rw [List.getElem_cons_drop, List.take_append_drop]
    obtain ⟨ρ1, h1, h2⟩ := step _ _ _ ρ e h
    refine ⟨ds[i], ρ1, List.getElem?_eq_getElem hi, h1, ?_⟩
    rcases h2 with ⟨ρ2, h2, h3⟩ | h2
    · refine .inl ⟨ρ2, h2, ?_⟩
      show I (ds.take (i + 1)) ρ2
      rw [List.take_succ_eq_append_getElem hi]
      exact h3
    · exact .inr h2) (fun _ _ => rfl) ds.length 0 ρ (by omega) (by simpa using h0)
  rcases h with ⟨ρ', h1, h2⟩ | h
  · refine .inl ⟨ρ', h1, ?_⟩
    have h2 : I (ds.take ds.length) ρ' := h2
    rwa [List.take_length] at h2
  · exact .inr h
/-- a comprehension -/
theorem compN_go {c : CSrc} {vs : List Nat} {tg : Tg} {ft : EL.Env → Out Bool} {fe : EL.Env → Out Rv} {n : Nat} (hn : n ≤ 16777216) (I : Nat → List D → EL.Env → Prop)
    (step : ∀ i acc ρ, i < n → I i acc ρ → ∃ d ρ1, c.it i ρ = some d ∧ tg d ρ = some ρ1 ∧ ((∃ ρ2, ft ρ1 = .ok false ρ2 ∧ I (i + 1) acc (wipeE vs ρ2)) ∨ ∃ ρ2 e ρ3, ft ρ1 = .ok true ρ2 ∧ fe ρ2 = .ok (.val e) ρ3 ∧ I (i + 1) (acc ++ [e]) (wipeE vs ρ3)))
    (fin : ∀ acc ρ, I n acc ρ → c.fin ρ = true) : ∀ (k i : Nat) (acc : List D) (ρ : EL.Env), i + k = n → acc.length ≤ i → I i acc ρ → ∃ zs ρ', compN c vs tg ft fe k i acc ρ = .ok zs ρ' ∧ I n zs ρ'
  | 0, i, acc, ρ, e, _, h => by
    have e2 : i = n := e
    subst e2
    refine ⟨acc, ρ, ?_, h⟩
    show (if c.fin ρ = true then Out.ok acc ρ else .bad) = _
    rw [if_pos (fin acc ρ h)]
  | k + 1, i, acc, ρ, e, hl, h => by
    obtain ⟨d, ρ1, h1, h2, h3⟩ := step i acc ρ (by omega) h
    unfold compN
    rw [h1]
    dsimp only
    rw [h2]
    dsimp only
    rcases h3 with ⟨ρ2, h3, h4⟩ | ⟨ρ2, e2, ρ3, h3, h4, h5⟩
    · rw [h3]
      exact compN_go hn I step fin k (i + 1) acc _ (by omega) (by omega) h4
    · rw [h3]
      dsimp only
      rw [h4]
      dsimp only
      rw [if_pos (by omega)]
      exact compN_go hn I step fin k (i + 1) (acc ++ [e2]) _ (by omega) (by rw [List.length_append]; exact Nat.succ_le_succ hl) h5
/-- over a list -/
theorem compL {ds : List D} {vs : List Nat} {tg : Tg} {ft : EL.Env → Out Bool} {fe : EL.Env → Out Rv} {ρ : EL.Env} (hn : ds.length ≤ 16777216) (I : List D → List D → EL.Env → Prop) (h0 : I [] [] ρ)
    (step : ∀ pre d post acc ρ, ds = pre ++ d :: post → I pre acc ρ → ∃ ρ1, tg d ρ = some ρ1 ∧ ((∃ ρ2, ft ρ1 = .ok false ρ2 ∧ I (pre ++ [d]) acc (wipeE vs ρ2)) ∨ ∃ ρ2 e ρ3, ft ρ1 = .ok true ρ2 ∧ fe ρ2 = .ok (.val e) ρ3 ∧ I (pre ++ [d]) (acc ++ [e]) (wipeE vs ρ3))) :
    ∃ zs ρ', compN (.of ds) vs tg ft fe ds.length 0 [] ρ = .ok zs ρ' ∧ I ds zs ρ' := by
  obtain ⟨zs, ρ', h1, h2⟩ := compN_go (c := .of ds) (vs := vs) (tg := tg) (ft := ft) (fe := fe) hn (fun i acc ρ => I (ds.take i) acc ρ) (fun i acc ρ hi h => by
    have e : ds = ds.take i ++ ds[i] :: ds.drop (i + 1) := by rw [List.getElem_cons_drop, List.take_append_drop]
    obtain ⟨ρ1, h1, h2⟩ := step _ _ _ acc ρ e h
    refine ⟨ds[i], ρ1, List.getElem?_eq_getElem hi, h1, ?_⟩
    show (∃ ρ2, _ ∧ I (ds.take (i + 1)) acc (wipeE vs ρ2)) ∨ ∃ ρ2 e ρ3, _ ∧ _ ∧ I (ds.take (i + 1)) (acc ++ [e]) (wipeE vs ρ3)
    rw [List.take_succ_eq_append_getElem hi]
    exact h2) (fun _ _ _ => rfl) ds.length 0 [] ρ (by omega) (Nat.zero_le _) (by simpa using h0)
  have h2 : I (ds.take ds.length) zs ρ' := h2
  rw [List.take_length] at h2
  exact ⟨zs, ρ', h1, h2⟩
/-- one that only reads -/
theorem compPure {α : Type} {xs : List α} {mk : α → D} {vs : List Nat} {tg : Tg} {ft : EL.Env → Out Bool} {fe : EL.Env → Out Rv} {ρ : EL.Env} (p : α → Bool) (g : α → D) (hn : xs.length ≤ 16777216)
    (step : ∀ x ∈ xs, ∃ ρ1, tg (mk x) ρ = some ρ1 ∧ ft ρ1 = .ok (p x) ρ1 ∧ (p x = true → fe ρ1 = .ok (.val (g x)) ρ1) ∧ wipeE vs ρ1 = ρ) :
    compN (.of (xs.map mk)) vs tg ft fe (xs.map mk).length 0 [] ρ = .ok ((xs.filter p).map g) ρ := by
  obtain ⟨zs, ρ', h1, h2⟩ := compN_go (c := .of (xs.map mk)) (vs := vs) (tg := tg) (ft := ft) (fe := fe) (n := (xs.map mk).length) (by simpa using hn) (fun i acc ρ2 => ρ2 = ρ ∧ acc = ((xs.take i).filter p).map g) (fun i acc ρ2 hi h => by
    obtain ⟨rfl, rfl⟩ := h
    have hi : i < xs.length := by simpa using hi
    obtain ⟨ρ1, h1, h2, h3, h4⟩ := step xs[i] (List.getElem_mem hi)
    refine ⟨mk xs[i], ρ1, by simp [List.getElem?_eq_getElem hi], h1, ?_⟩
    cases q : p xs[i] with
    | false => exact .inl ⟨ρ1, by rw [h2, q], h4, by rw [List.take_succ_eq_append_getElem hi, List.filter_append, List.filter_cons, if_neg (by simp [q]), List.filter_nil, List.append_nil]⟩
    | true => exact .inr ⟨ρ1, g xs[i], ρ1, by rw [h2, q], h3 q, h4, by rw [List.take_succ_eq_append_getElem hi, List.filter_append, List.filter_cons, if_pos q, List.filter_nil, List.map_append]; rfl⟩) (fun _ _ _ => rfl) (xs.map mk).length 0 [] ρ (by omega) (Nat.zero_le _) ⟨rfl, by simp⟩
  obtain ⟨rfl, rfl⟩ := h2
  rw [h1, show (xs.map mk).length = xs.length from List.length_map .., List.take_length]
theorem eCompL_of {fi : EL.Env → Out CSrc} {vs : List Nat} {tg : Tg} {ft : EL.Env → Out Bool} {fe : EL.Env → Out Rv} {ρ ρ1 ρ2 : EL.Env} {ds zs : List D} (h : fi ρ = .ok (.of ds) ρ1) (hc : compN (.of ds) vs tg ft fe ds.length 0 [] (wipeE vs ρ1) = .ok zs ρ2) : eCompL fi vs tg ft fe ρ = .ok zs (putBack ρ1 vs ρ2) := by
  unfold eCompL
  rw [h, Out.bind_ok, CSrc.of_slot, Option.all_none, if_pos rfl, CSrc.of_n, hc]
theorem sFor_of {fi : EL.Env → Out CSrc} {tg : Tg} {fb : EL.Env → SO} {ρ ρ1 : EL.Env} {ds : List D} (h : fi ρ = .ok (.of ds) ρ1) : sFor fi tg fb ρ = forN (.of ds) tg fb ds.length 0 ρ1 := by
  unfold sFor
  rw [h]
  rfl
end EL

namespace HD
open PySem PySem.Spec PyProof.Rows L2 EL LamX
def top (i : Nat) : Stmt := PySem.Challenge.pw_secondround_k01_webs_known.main.body.getD i (.Pass ⟨0, 0, 0, 0⟩)
def cvK (K : PySem.W.Frag) (c : String) : Value := .ref (He.ga K (Str.ofString c))
def tbK (K : PySem.W.Frag) : List (Addr × Str) := [(tabK K "_law_judged", (envOfC "_law_judged" (defScope (top 46)) 0 0 .none).qual ++ "<lambda>"), (tabK K "law", (envOfC "law" (defScope (top 47)) 0 0 .none).qual ++ "<lambda>")]
abbrev plainC : List String := ["InvalidWeb", "InvalidTie", "InvalidTies", "InvalidRound", "InvalidPlace", "InvalidLane", "InvalidTurn", "InvalidHues", "InvalidIndex", "InvalidNumber", "InvalidText", "Unlike", "NoRound", "NoTurn", "NothingToUndo"]
abbrev allC : List String := plainC ++ ["TooMany"]
structure Nx (K : PySem.W.Frag) : Prop where
  cls : ClsK K plainC allC "RoundError"
  tne : apartB K ["_law_judged", "law"] = true
theorem tb_nodup {K : PySem.W.Frag} (B : Nx K) : ((tbK K).map (·.1)).Nodup := of_decide_eq_true B.tne
structure Tx (K : PySem.W.Frag) (mg : Str → Option Value) (base : Heap) : Prop where
  t__law_judged : TabB base mg (He.codeOf K ("_law_judged", none)) (tabK K "_law_judged")
  t_law : TabB base mg (He.codeOf K ("law", none)) (tabK K "law")
structure Fx (K : PySem.W.Frag) (mg : Str → Option Value) : Prop where
  b_len : mg "len" = none
  b_sorted : mg "sorted" = none
  b_range : mg "range" = none
  b_isinstance : mg "isinstance" = none
  b_int : mg "int" = none
  b_bool : mg "bool" = none
  b_str : mg "str" = none
  b_tuple : mg "tuple" = none
  b_list : mg "list" = none
  b_set : mg "set" = none
  b_all : mg "all" = none
  b_any : mg "any" = none
  b_min : mg "min" = none
  b_max : mg "max" = none
  b_sum : mg "sum" = none
  b_zip : mg "zip" = none
  b_enumerate : mg "enumerate" = none
  b_ValueError : mg "ValueError" = none
  i_MOST : ∃ t, mg "MOST" = some (.int 15 t)
  m_is_whole : mg "is_whole" = some (.ref (He.ga K "is_whole"))
  d_is_whole : ∃ fd, FunD K "is_whole" "is_whole" (defArgs (top 20)) (defBody (top 20)) (defScope (top 20)) [] [] (He.ga K "is_whole") fd
  m_fits_tie : mg "fits_tie" = some (.ref (He.ga K "fits_tie"))
  d_fits_tie : ∃ fd, FunD K "fits_tie" "fits_tie" (defArgs (top 21)) (defBody (top 21)) (defScope (top 21)) [] [] (He.ga K "fits_tie") fd
  m_near : mg "near" = some (.ref (He.ga K "near"))
  d_near : ∃ fd, FunD K "near" "near" (defArgs (top 22)) (defBody (top 22)) (defScope (top 22)) [] [] (He.ga K "near") fd
  m_fits_web : mg "fits_web" = some (.ref (He.ga K "fits_web"))
  d_fits_web : ∃ fd, FunD K "fits_web" "fits_web" (defArgs (top 23)) (defBody (top 23)) (defScope (top 23)) [] [] (He.ga K "fits_web") fd
  m_fits_threes : mg "fits_threes" = some (.ref (He.ga K "fits_threes"))
  d_fits_threes : ∃ fd, FunD K "fits_threes" "fits_threes" (defArgs (top 24)) (defBody (top 24)) (defScope (top 24)) [] [] (He.ga K "fits_threes") fd
  m_need_web : mg "need_web" = some (.ref (He.ga K "need_web"))
  d_need_web : ∃ fd, FunD K "need_web" "need_web" (defArgs (top 25)) (defBody (top 25)) (defScope (top 25)) [] [] (He.ga K "need_web") fd
  m_need_place : mg "need_place" = some (.ref (He.ga K "need_place"))
  d_need_place : ∃ fd, FunD K "need_place" "need_place" (defArgs (top 26)) (defBody (top 26)) (defScope (top 26)) [] [] (He.ga K "need_place") fd
  m_is_web : mg "is_web" = some (.ref (He.ga K "is_web"))
  d_is_web : ∃ fd, FunD K "is_web" "is_web" (defArgs (top 27)) (defBody (top 27)) (defScope (top 27)) [] [] (He.ga K "is_web") fd
  m_is_of_threes : mg "is_of_threes" = some (.ref (He.ga K "is_of_threes"))
  d_is_of_threes : ∃ fd, FunD K "is_of_threes" "is_of_threes" (defArgs (top 28)) (defBody (top 28)) (defScope (top 28)) [] [] (He.ga K "is_of_threes") fd
  m_tied : mg "tied" = some (.ref (He.ga K "tied"))
  d_tied : ∃ fd, FunD K "tied" "tied" (defArgs (top 29)) (defBody (top 29)) (defScope (top 29)) [] [] (He.ga K "tied") fd
  m__law_drum : mg "_law_drum" = some (.ref (He.ga K "_law_drum"))
  d__law_drum : ∃ fd, FunD K "_law_drum" "_law_drum" (defArgs (top 31)) (defBody (top 31)) (defScope (top 31)) [] [] (He.ga K "_law_drum") fd
  m__law_roll : mg "_law_roll" = some (.ref (He.ga K "_law_roll"))
  d__law_roll : ∃ fd, FunD K "_law_roll" "_law_roll" (defArgs (top 32)) (defBody (top 32)) (defScope (top 32)) [] [] (He.ga K "_law_roll") fd
  m__law_some : mg "_law_some" = some (.ref (He.ga K "_law_some"))
  d__law_some : ∃ fd, FunD K "_law_some" "_law_some" (defArgs (top 33)) (defBody (top 33)) (defScope (top 33)) [] [] (He.ga K "_law_some") fd
  m__law_pairs : mg "_law_pairs" = some (.ref (He.ga K "_law_pairs"))
  d__law_pairs : ∃ fd, FunD K "_law_pairs" "_law_pairs" (defArgs (top 34)) (defBody (top 34)) (defScope (top 34)) [] [] (He.ga K "_law_pairs") fd
  m__law_tie : mg "_law_tie" = some (.ref (He.ga K "_law_tie"))
  d__law_tie : ∃ fd, FunD K "_law_tie" "_law_tie" (defArgs (top 35)) (defBody (top 35)) (defScope (top 35)) [] [] (He.ga K "_law_tie") fd
  m__law_near : mg "_law_near" = some (.ref (He.ga K "_law_near"))
  d__law_near : ∃ fd, FunD K "_law_near" "_law_near" (defArgs (top 36)) (defBody (top 36)) (defScope (top 36)) [] [] (He.ga K "_law_near") fd
  m__law_written : mg "_law_written" = some (.ref (He.ga K "_law_written"))
  d__law_written : ∃ fd, FunD K "_law_written" "_law_written" (defArgs (top 37)) (defBody (top 37)) (defScope (top 37)) [] [] (He.ga K "_law_written") fd
  m__law_threes : mg "_law_threes" = some (.ref (He.ga K "_law_threes"))
  d__law_threes : ∃ fd, FunD K "_law_threes" "_law_threes" (defArgs (top 38)) (defBody (top 38)) (defScope (top 38)) [] [] (He.ga K "_law_threes") fd
  m__law_odd_web : mg "_law_odd_web" = some (.ref (He.ga K "_law_odd_web"))
  d__law_odd_web : ∃ fd, FunD K "_law_odd_web" "_law_odd_web" (defArgs (top 39)) (defBody (top 39)) (defScope (top 39)) [] [] (He.ga K "_law_odd_web") fd
  m__law_web : mg "_law_web" = some (.ref (He.ga K "_law_web"))
  d__law_web : ∃ fd, FunD K "_law_web" "_law_web" (defArgs (top 40)) (defBody (top 40)) (defScope (top 40)) [] [] (He.ga K "_law_web") fd
  m__law_odd : mg "_law_odd" = some (.ref (He.ga K "_law_odd"))
  d__law_odd : ∃ fd, FunD K "_law_odd" "_law_odd" (defArgs (top 41)) (defBody (top 41)) (defScope (top 41)) [] [] (He.ga K "_law_odd") fd
  m__law_bent : mg "_law_bent" = some (.ref (He.ga K "_law_bent"))
  d__law_bent : ∃ fd, FunD K "_law_bent" "_law_bent" (defArgs (top 42)) (defBody (top 42)) (defScope (top 42)) [] [] (He.ga K "_law_bent") fd
  m__law_names : mg "_law_names" = some (.ref (He.ga K "_law_names"))
  d__law_names : ∃ fd, FunD K "_law_names" "_law_names" (defArgs (top 43)) (defBody (top 43)) (defScope (top 43)) [] [] (He.ga K "_law_names") fd
  m__law_error : mg "_law_error" = some (.ref (He.ga K "_law_error"))
  d__law_error : ∃ fd, FunD K "_law_error" "_law_error" (defArgs (top 44)) (defBody (top 44)) (defScope (top 44)) [] [] (He.ga K "_law_error") fd
  m__law_is_web : mg "_law_is_web" = some (.ref (He.ga K "_law_is_web"))
  d__law_is_web : ∃ fd, FunD K "_law_is_web" "_law_is_web" (defArgs (top 45)) (defBody (top 45)) (defScope (top 45)) [] [] (He.ga K "_law_is_web") fd
  m__law_judged : mg "_law_judged" = some (.ref (He.ga K "_law_judged"))
  d__law_judged : ∃ fd, FunD K "_law_judged" "_law_judged" (defArgs (top 46)) (defBody (top 46)) (defScope (top 46)) [] [] (He.ga K "_law_judged") fd
  m_law : mg "law" = some (.ref (He.ga K "law"))
  d_law : ∃ fd, FunD K "law" "law" (defArgs (top 47)) (defBody (top 47)) (defScope (top 47)) [] [] (He.ga K "law") fd
  g_RoundError : mg "RoundError" = some (.ref (He.ga K "RoundError"))
  g_InvalidWeb : mg "InvalidWeb" = some (.ref (He.ga K "InvalidWeb"))
  c_InvalidWeb : PySem.W.excIn K (He.ga K "InvalidWeb") He.veBase "ValueError.__new__" = true ∧ PySem.W.keepIn K (.ref (He.ga K "InvalidWeb")) = true ∧ PySem.W.subIn K (.ref (He.ga K "InvalidWeb")) (.type "BaseException") = some true ∧ PySem.W.typeIn K (.ref (He.ga K "InvalidWeb")) = some (.type "type")
  g_InvalidTie : mg "InvalidTie" = some (.ref (He.ga K "InvalidTie"))
  c_InvalidTie : PySem.W.excIn K (He.ga K "InvalidTie") He.veBase "ValueError.__new__" = true ∧ PySem.W.keepIn K (.ref (He.ga K "InvalidTie")) = true ∧ PySem.W.subIn K (.ref (He.ga K "InvalidTie")) (.type "BaseException") = some true ∧ PySem.W.typeIn K (.ref (He.ga K "InvalidTie")) = some (.type "type")
  g_InvalidTies : mg "InvalidTies" = some (.ref (He.ga K "InvalidTies"))
  c_InvalidTies : PySem.W.excIn K (He.ga K "InvalidTies") He.veBase "ValueError.__new__" = true ∧ PySem.W.keepIn K (.ref (He.ga K "InvalidTies")) = true ∧ PySem.W.subIn K (.ref (He.ga K "InvalidTies")) (.type "BaseException") = some true ∧ PySem.W.typeIn K (.ref (He.ga K "InvalidTies")) = some (.type "type")
  g_InvalidRound : mg "InvalidRound" = some (.ref (He.ga K "InvalidRound"))
  c_InvalidRound : PySem.W.excIn K (He.ga K "InvalidRound") He.veBase "ValueError.__new__" = true ∧ PySem.W.keepIn K (.ref (He.ga K "InvalidRound")) = true ∧ PySem.W.subIn K (.ref (He.ga K "InvalidRound")) (.type "BaseException") = some true ∧ PySem.W.typeIn K (.ref (He.ga K "InvalidRound")) = some (.type "type")
  g_InvalidPlace : mg "InvalidPlace" = some (.ref (He.ga K "InvalidPlace"))
  c_InvalidPlace : PySem.W.excIn K (He.ga K "InvalidPlace") He.veBase "ValueError.__new__" = true ∧ PySem.W.keepIn K (.ref (He.ga K "InvalidPlace")) = true ∧ PySem.W.subIn K (.ref (He.ga K "InvalidPlace")) (.type "BaseException") = some true ∧ PySem.W.typeIn K (.ref (He.ga K "InvalidPlace")) = some (.type "type")
  g_InvalidLane : mg "InvalidLane" = some (.ref (He.ga K "InvalidLane"))
  c_InvalidLane : PySem.W.excIn K (He.ga K "InvalidLane") He.veBase "ValueError.__new__" = true ∧ PySem.W.keepIn K (.ref (He.ga K "InvalidLane")) = true ∧ PySem.W.subIn K (.ref (He.ga K "InvalidLane")) (.type "BaseException") = some true ∧ PySem.W.typeIn K (.ref (He.ga K "InvalidLane")) = some (.type "type")
  g_InvalidTurn : mg "InvalidTurn" = some (.ref (He.ga K "InvalidTurn"))
  c_InvalidTurn : PySem.W.excIn K (He.ga K "InvalidTurn") He.veBase "ValueError.__new__" = true ∧ PySem.W.keepIn K (.ref (He.ga K "InvalidTurn")) = true ∧ PySem.W.subIn K (.ref (He.ga K "InvalidTurn")) (.type "BaseException") = some true ∧ PySem.W.typeIn K (.ref (He.ga K "InvalidTurn")) = some (.type "type")
  g_InvalidHues : mg "InvalidHues" = some (.ref (He.ga K "InvalidHues"))
  c_InvalidHues : PySem.W.excIn K (He.ga K "InvalidHues") He.veBase "ValueError.__new__" = true ∧ PySem.W.keepIn K (.ref (He.ga K "InvalidHues")) = true ∧ PySem.W.subIn K (.ref (He.ga K "InvalidHues")) (.type "BaseException") = some true ∧ PySem.W.typeIn K (.ref (He.ga K "InvalidHues")) = some (.type "type")
  g_InvalidIndex : mg "InvalidIndex" = some (.ref (He.ga K "InvalidIndex"))
  c_InvalidIndex : PySem.W.excIn K (He.ga K "InvalidIndex") He.veBase "ValueError.__new__" = true ∧ PySem.W.keepIn K (.ref (He.ga K "InvalidIndex")) = true ∧ PySem.W.subIn K (.ref (He.ga K "InvalidIndex")) (.type "BaseException") = some true ∧ PySem.W.typeIn K (.ref (He.ga K "InvalidIndex")) = some (.type "type")
  g_InvalidNumber : mg "InvalidNumber" = some (.ref (He.ga K "InvalidNumber"))
  c_InvalidNumber : PySem.W.excIn K (He.ga K "InvalidNumber") He.veBase "ValueError.__new__" = true ∧ PySem.W.keepIn K (.ref (He.ga K "InvalidNumber")) = true ∧ PySem.W.subIn K (.ref (He.ga K "InvalidNumber")) (.type "BaseException") = some true ∧ PySem.W.typeIn K (.ref (He.ga K "InvalidNumber")) = some (.type "type")
  g_InvalidText : mg "InvalidText" = some (.ref (He.ga K "InvalidText"))
  c_InvalidText : PySem.W.excIn K (He.ga K "InvalidText") He.veBase "ValueError.__new__" = true ∧ PySem.W.keepIn K (.ref (He.ga K "InvalidText")) = true ∧ PySem.W.subIn K (.ref (He.ga K "InvalidText")) (.type "BaseException") = some true ∧ PySem.W.typeIn K (.ref (He.ga K "InvalidText")) = some (.type "type")
  g_Unlike : mg "Unlike" = some (.ref (He.ga K "Unlike"))
  c_Unlike : PySem.W.excIn K (He.ga K "Unlike") He.veBase "ValueError.__new__" = true ∧ PySem.W.keepIn K (.ref (He.ga K "Unlike")) = true ∧ PySem.W.subIn K (.ref (He.ga K "Unlike")) (.type "BaseException") = some true ∧ PySem.W.typeIn K (.ref (He.ga K "Unlike")) = some (.type "type")
  g_NoRound : mg "NoRound" = some (.ref (He.ga K "NoRound"))
  c_NoRound : PySem.W.excIn K (He.ga K "NoRound") He.veBase "ValueError.__new__" = true ∧ PySem.W.keepIn K (.ref (He.ga K "NoRound")) = true ∧ PySem.W.subIn K (.ref (He.ga K "NoRound")) (.type "BaseException") = some true ∧ PySem.W.typeIn K (.ref (He.ga K "NoRound")) = some (.type "type")
  g_NoTurn : mg "NoTurn" = some (.ref (He.ga K "NoTurn"))
  c_NoTurn : PySem.W.excIn K (He.ga K "NoTurn") He.veBase "ValueError.__new__" = true ∧ PySem.W.keepIn K (.ref (He.ga K "NoTurn")) = true ∧ PySem.W.subIn K (.ref (He.ga K "NoTurn")) (.type "BaseException") = some true ∧ PySem.W.typeIn K (.ref (He.ga K "NoTurn")) = some (.type "type")
  g_NothingToUndo : mg "NothingToUndo" = some (.ref (He.ga K "NothingToUndo"))
  c_NothingToUndo : PySem.W.excIn K (He.ga K "NothingToUndo") He.veBase "ValueError.__new__" = true ∧ PySem.W.keepIn K (.ref (He.ga K "NothingToUndo")) = true ∧ PySem.W.subIn K (.ref (He.ga K "NothingToUndo")) (.type "BaseException") = some true ∧ PySem.W.typeIn K (.ref (He.ga K "NothingToUndo")) = some (.type "type")
  g_TooMany : mg "TooMany" = some (.ref (He.ga K "TooMany"))
section
variable {P : Program} {w : World} {K : PySem.W.Frag} {mg : Str → Option Value} {base : Heap}
abbrev N_is_whole : List Str := ["value", "low", "high"]
theorem sc_is_whole : FnScope ["value", "low", "high"] ["value", "low", "high"] (defScope (top 20)) := ⟨rfl, rfl, rfl, by decide +kernel, rfl, by decide +kernel, by decide +kernel⟩
def b_is_whole : EL.Env → SO :=
 (sRet (eAnd (eIsi "int" (eName 0)) (eAnd (eNot (eIsi "bool" (eName 0))) (eChain leD leD (eName 1) (eName 0) (eName 2)))))
def m_is_whole : List EL.Slot → FR := mOf 3 3 b_is_whole
theorem ok_is_whole (A : Fx K mg) : FK P w K mg base (cvK K) (tbK K) "is_whole" 1 m_is_whole := by
  obtain ⟨fd, F⟩ := A.d_is_whole
  exact fk_of F A.m_is_whole sc_is_whole (fun _ _ _ _ _ _ us hl => match us, hl with | [_, _, _], _ => rfl) fun cdv Ar outer s H E O vs as hr =>
   have tk := L2N.takes_of (X := cxOf (L2N.CX P w) P w K mg base ["value", "low", "high"] "is_whole" (defScope (top 20)) (He.ga K "is_whole") cdv Ar outer s H E) rfl rfl rfl rfl
   (bv_one (sv_ret (ev_and (ev_isi (T := "int") (ev_name 0) rfl A.b_isinstance rfl A.b_int (by decide +kernel)) (ev_and (ev_not (ev_isi (T := "bool") (ev_name 0) rfl A.b_isinstance rfl A.b_bool (by decide +kernel))) (ev_one (ev_lele hr (ev_name 1) (ev_name 0) (ev_name 2)))))))
abbrev N_fits_tie : List Str := ["places", "value"]
theorem sc_fits_tie : FnScope ["places", "value"] ["places", "value"] (defScope (top 21)) := ⟨rfl, rfl, rfl, by decide +kernel, rfl, by decide +kernel, by decide +kernel⟩
def b_fits_tie : EL.Env → SO :=
 (sSeq (sIf (tOrB (tNotB (tTru (eIsi "tuple" (eName 1)))) (tOrB (tBl (eBin neD (eCallV lenD (aCons (eName 1) aNil)) (eK (.int 2)))) (tNotB (tTru (eNew (nCall m_is_whole (aCons (eBin ixD (eName 1) (eK (.int 0))) (aCons (eK (.int 0)) (aCons (eBin subD (eName 0) (eK (.int 1))) aNil)))))))))
 (sRet (eK (.bl false)))
 SO.next)
 (sRet (eNew (nCall m_is_whole (aCons (eBin ixD (eName 1) (eK (.int 1))) (aCons (eBin addD (eBin ixD (eName 1) (eK (.int 0))) (eK (.int 1))) (aCons (eBin subD (eName 0) (eK (.int 1))) aNil)))))))
def m_fits_tie : List EL.Slot → FR := mOf 2 2 b_fits_tie
theorem ok_fits_tie (A : Fx K mg) : FK P w K mg base (cvK K) (tbK K) "fits_tie" 2 m_fits_tie := by
  obtain ⟨fd, F⟩ := A.d_fits_tie
  exact fk_of F A.m_fits_tie sc_fits_tie (fun _ _ _ _ _ _ us hl => match us, hl with | [_, _], _ => rfl) fun cdv Ar outer s H E O vs as hr =>
   have tk := L2N.takes_of (X := cxOf (L2N.CX P w) P w K mg base ["places", "value"] "fits_tie" (defScope (top 21)) (He.ga K "fits_tie") cdv Ar outer s H E) rfl rfl rfl rfl
   (bv_cons (sv_if (Wv.tv (wv_or (tv_not (tv_truth (ev_isi (T := "tuple") (ev_name 1) rfl A.b_isinstance rfl A.b_tuple (by decide +kernel)))) (wv_or (tv_ne hr (ev_len rfl A.b_len (av_cons (ev_name 1) av_nil)) ev_int) (wv_or1 (tv_not (tv_truth (ev_new (nv_call (ok_is_whole A) (by decide) hr rfl tk (av_cons (ev_ix (ev_name 1) ev_int) (av_cons ev_int (av_cons (ev_sub (ev_name 0) ev_int) av_nil)))))))))))
 (bv_one (sv_ret ev_bl))
 bv_nil)
 (bv_one (sv_ret (ev_new (nv_call (ok_is_whole A) (by decide) hr rfl tk (av_cons (ev_ix (ev_name 1) ev_int) (av_cons (ev_add (ev_ix (ev_name 1) ev_int) ev_int) (av_cons (ev_sub (ev_name 0) ev_int) av_nil))))))))
abbrev N_near : List Str := ["web", "place", "one", "other"]
theorem sc_near : FnScope ["web", "place", "one", "other"] ["web", "place"] (defScope (top 22)) := ⟨rfl, rfl, rfl, by decide +kernel, rfl, by decide +kernel, by decide +kernel⟩
def b_near : EL.Env → SO :=
 (sRet (eCallV sortedD (aCons (eFresh (eCompL (iSeq (eBin ixD (eName 0) (eK (.int 1)))) [2, 3] (gTupD [2, 3]) (tBl (eBin inD (eName 1) (eTup (aCons (eName 2) (aCons (eName 3) aNil))))) (eBin subD (eBin addD (eName 2) (eName 3)) (eName 1)))) aNil)))
def m_near : List EL.Slot → FR := mOf 2 4 b_near
theorem ok_near (A : Fx K mg) : FK P w K mg base (cvK K) (tbK K) "near" 1 m_near := by
  obtain ⟨fd, F⟩ := A.d_near
  exact fk_of F A.m_near sc_near (fun _ _ _ _ _ _ us hl => match us, hl with | [_, _], _ => rfl) fun cdv Ar outer s H E O vs as hr =>
   have tk := L2N.takes_of (X := cxOf (L2N.CX P w) P w K mg base ["web", "place", "one", "other"] "near" (defScope (top 22)) (He.ga K "near") cdv Ar outer s H E) rfl rfl rfl rfl
   (bv_one (sv_ret (ev_sorted hr rfl A.b_sorted (av_cons (ev_fresh (fv_comp (own := [("one", 2), ("other", 3)]) sc_near.nd (blkOk_by (by show blkC N_near (defScope (top 22)) _ _ = true; decide +kernel)) (iv_seq (ev_ix (ev_name 0) ev_int)) (fun _ _ _ _ _ => (gv_tup (gsv_cons 2 (gsv_cons 3 gsv_nil sc_near.nd) sc_near.nd))) (fun _ _ _ _ _ => (tsv_one (tv_in hr (ev_name 1) (ev_tup (av_cons (ev_name 2) (av_cons (ev_name 3) av_nil)))))) (fun _ _ _ _ _ => (ev_sub (ev_add (ev_name 2) (ev_name 3)) (ev_name 1))))) av_nil))))
abbrev N_fits_web : List Str := ["value", "tie", "at", "place"]
theorem sc_fits_web : FnScope ["value", "tie", "at", "place"] ["value"] (defScope (top 23)) := ⟨rfl, rfl, rfl, by decide +kernel, rfl, by decide +kernel, by decide +kernel⟩
def b_fits_web : EL.Env → SO :=
 (sSeq (sIf (tOrB (tNotB (tTru (eIsi "tuple" (eName 0)))) (tOrB (tBl (eBin neD (eCallV lenD (aCons (eName 0) aNil)) (eK (.int 2)))) (tOrB (tNotB (tTru (eNew (nCall m_is_whole (aCons (eBin ixD (eName 0) (eK (.int 0))) (aCons (eK (.int 4)) (aCons (eK (.int 10)) aNil))))))) (tBl (eBin eqD (eBin modD (eBin ixD (eName 0) (eK (.int 0))) (eK (.int 2))) (eK (.int 1)))))))
 (sRet (eK (.bl false)))
 SO.next)
 (sSeq (sIf (tOrB (tNotB (tTru (eIsi "tuple" (eBin ixD (eName 0) (eK (.int 1)))))) (tBl (eBin gtD (eCallV lenD (aCons (eBin ixD (eName 0) (eK (.int 1))) aNil)) (eK (.int 15)))))
 (sRet (eK (.bl false)))
 SO.next)
 (sSeq (sIf (tNotB (tTru (eCallV allD (aCons (eFresh (eCompL (iSeq (eBin ixD (eName 0) (eK (.int 1)))) [1] (gSet 1) tYesB (eNew (nCall m_fits_tie (aCons (eBin ixD (eName 0) (eK (.int 0))) (aCons (eName 1) aNil)))))) aNil))))
 (sRet (eK (.bl false)))
 SO.next)
 (sSeq (sIf (tNotB (tTru (eCallV allD (aCons (eFresh (eCompL (iRng rng1 (aCons (eBin subD (eCallV lenD (aCons (eBin ixD (eName 0) (eK (.int 1))) aNil)) (eK (.int 1))) aNil)) [2] (gSet 2) tYesB (eBin ltD (eBin ixD (eBin ixD (eName 0) (eK (.int 1))) (eName 2)) (eBin ixD (eBin ixD (eName 0) (eK (.int 1))) (eBin addD (eName 2) (eK (.int 1))))))) aNil))))
 (sRet (eK (.bl false)))
 SO.next)
 (sRet (eCallV allD (aCons (eFresh (eCompL (iRng rng1 (aCons (eBin ixD (eName 0) (eK (.int 0))) aNil)) [3] (gSet 3) tYesB (eBin eqD (eBin modD (eCallV lenD (aCons (eNew (nCall m_near (aCons (eName 0) (aCons (eName 3) aNil)))) aNil)) (eK (.int 2))) (eK (.int 1))))) aNil)))))))
def m_fits_web : List EL.Slot → FR := mOf 1 4 b_fits_web
theorem ok_fits_web (A : Fx K mg) : FK P w K mg base (cvK K) (tbK K) "fits_web" 3 m_fits_web := by
  obtain ⟨fd, F⟩ := A.d_fits_web
  exact fk_of F A.m_fits_web sc_fits_web (fun _ _ _ _ _ _ us hl => match us, hl with | [_], _ => rfl) fun cdv Ar outer s H E O vs as hr =>
   have tk := L2N.takes_of (X := cxOf (L2N.CX P w) P w K mg base ["value", "tie", "at", "place"] "fits_web" (defScope (top 23)) (He.ga K "fits_web") cdv Ar outer s H E) rfl rfl rfl rfl
   (bv_cons (sv_if (Wv.tv (wv_or (tv_not (tv_truth (ev_isi (T := "tuple") (ev_name 0) rfl A.b_isinstance rfl A.b_tuple (by decide +kernel)))) (wv_or (tv_ne hr (ev_len rfl A.b_len (av_cons (ev_name 0) av_nil)) ev_int) (wv_or (tv_not (tv_truth (ev_new (nv_call (ok_is_whole A) (by decide) hr rfl tk (av_cons (ev_ix (ev_name 0) ev_int) (av_cons ev_int (av_cons ev_int av_nil))))))) (wv_or1 (tv_eq hr (ev_mod (ev_ix (ev_name 0) ev_int) ev_int) ev_int))))))
 (bv_one (sv_ret ev_bl))
 bv_nil)
 (bv_cons (sv_if (Wv.tv (wv_or (tv_not (tv_truth (ev_isi (T := "tuple") (ev_ix (ev_name 0) ev_int) rfl A.b_isinstance rfl A.b_tuple (by decide +kernel)))) (wv_or1 (tv_gt (ev_len rfl A.b_len (av_cons (ev_ix (ev_name 0) ev_int) av_nil)) (ev_globI rfl A.i_MOST.choose_spec)))))
 (bv_one (sv_ret ev_bl))
 bv_nil)
 (bv_cons (sv_if (tv_not (tv_truth (ev_all rfl A.b_all (av_cons (ev_fresh (fv_comp (own := [("tie", 1)]) sc_fits_web.nd (blkOk_by (by show blkC N_fits_web (defScope (top 23)) _ _ = true; decide +kernel)) (iv_seq (ev_ix (ev_name 0) ev_int)) (fun _ _ _ _ _ => (gv_name 1 sc_fits_web.nd)) (fun _ _ _ _ _ => tsv_nil) (fun _ _ _ _ _ => (ev_new (nv_call (ok_fits_tie A) (by decide) hr rfl takes0N (av_cons (ev_ix (ev_name 0) ev_int) (av_cons (ev_name 1) av_nil))))))) av_nil))))
 (bv_one (sv_ret ev_bl))
 bv_nil)
 (bv_cons (sv_if (tv_not (tv_truth (ev_all rfl A.b_all (av_cons (ev_fresh (fv_comp (own := [("at", 2)]) sc_fits_web.nd (blkOk_by (by show blkC N_fits_web (defScope (top 23)) _ _ = true; decide +kernel)) (iv_rng1 (av_cons (ev_sub (ev_len rfl A.b_len (av_cons (ev_ix (ev_name 0) ev_int) av_nil)) ev_int) av_nil) rfl A.b_range) (fun _ _ _ _ _ => (gv_name 2 sc_fits_web.nd)) (fun _ _ _ _ _ => tsv_nil) (fun _ _ _ _ _ => (ev_lt hr (ev_ix (ev_ix (ev_name 0) ev_int) (ev_name 2)) (ev_ix (ev_ix (ev_name 0) ev_int) (ev_add (ev_name 2) ev_int)))))) av_nil))))
 (bv_one (sv_ret ev_bl))
 bv_nil)
 (bv_one (sv_ret (ev_all rfl A.b_all (av_cons (ev_fresh (fv_comp (own := [("place", 3)]) sc_fits_web.nd (blkOk_by (by show blkC N_fits_web (defScope (top 23)) _ _ = true; decide +kernel)) (iv_rng1 (av_cons (ev_ix (ev_name 0) ev_int) av_nil) rfl A.b_range) (fun _ _ _ _ _ => (gv_name 3 sc_fits_web.nd)) (fun _ _ _ _ _ => tsv_nil) (fun _ _ _ _ _ => (ev_eq hr (ev_mod (ev_len rfl A.b_len (av_cons (ev_new (nv_call (ok_near A) (by decide) hr rfl takes0N (av_cons (ev_name 0) (av_cons (ev_name 3) av_nil)))) av_nil)) ev_int) ev_int)))) av_nil))))))))
abbrev N_fits_threes : List Str := ["web", "place"]
theorem sc_fits_threes : FnScope ["web", "place"] ["web"] (defScope (top 24)) := ⟨rfl, rfl, rfl, by decide +kernel, rfl, by decide +kernel, by decide +kernel⟩
def b_fits_threes : EL.Env → SO :=
 (sRet (eCallV allD (aCons (eFresh (eCompL (iRng rng1 (aCons (eBin ixD (eName 0) (eK (.int 0))) aNil)) [1] (gSet 1) tYesB (eBin eqD (eCallV lenD (aCons (eNew (nCall m_near (aCons (eName 0) (aCons (eName 1) aNil)))) aNil)) (eK (.int 3))))) aNil)))
def m_fits_threes : List EL.Slot → FR := mOf 1 2 b_fits_threes
theorem ok_fits_threes (A : Fx K mg) : FK P w K mg base (cvK K) (tbK K) "fits_threes" 2 m_fits_threes := by
  obtain ⟨fd, F⟩ := A.d_fits_threes
  exact fk_of F A.m_fits_threes sc_fits_threes (fun _ _ _ _ _ _ us hl => match us, hl with | [_], _ => rfl) fun cdv Ar outer s H E O vs as hr =>
   have tk := L2N.takes_of (X := cxOf (L2N.CX P w) P w K mg base ["web", "place"] "fits_threes" (defScope (top 24)) (He.ga K "fits_threes") cdv Ar outer s H E) rfl rfl rfl rfl
   (bv_one (sv_ret (ev_all rfl A.b_all (av_cons (ev_fresh (fv_comp (own := [("place", 1)]) sc_fits_threes.nd (blkOk_by (by show blkC N_fits_threes (defScope (top 24)) _ _ = true; decide +kernel)) (iv_rng1 (av_cons (ev_ix (ev_name 0) ev_int) av_nil) rfl A.b_range) (fun _ _ _ _ _ => (gv_name 1 sc_fits_threes.nd)) (fun _ _ _ _ _ => tsv_nil) (fun _ _ _ _ _ => (ev_eq hr (ev_len rfl A.b_len (av_cons (ev_new (nv_call (ok_near A) (by decide) hr rfl takes0N (av_cons (ev_name 0) (av_cons (ev_name 1) av_nil)))) av_nil)) ev_int)))) av_nil))))
abbrev N_need_web : List Str := ["value"]
theorem sc_need_web : FnScope ["value"] ["value"] (defScope (top 25)) := ⟨rfl, rfl, rfl, by decide +kernel, rfl, by decide +kernel, by decide +kernel⟩
def b_need_web : EL.Env → SO :=
 (sIf (tNotB (tTru (eNew (nCall m_fits_web (aCons (eName 0) aNil)))))
 (sRaise "InvalidWeb")
 SO.next)
def m_need_web : List EL.Slot → FR := mOf 1 1 b_need_web
theorem ok_need_web (A : Fx K mg) : FK P w K mg base (cvK K) (tbK K) "need_web" 4 m_need_web := by
  obtain ⟨fd, F⟩ := A.d_need_web
  exact fk_of F A.m_need_web sc_need_web (fun _ _ _ _ _ _ us hl => match us, hl with | [_], _ => rfl) fun cdv Ar outer s H E O vs as hr =>
   have tk := L2N.takes_of (X := cxOf (L2N.CX P w) P w K mg base ["value"] "need_web" (defScope (top 25)) (He.ga K "need_web") cdv Ar outer s H E) rfl rfl rfl rfl
   (bv_one (sv_if (tv_not (tv_truth (ev_new (nv_call (ok_fits_web A) (by decide) hr rfl tk (av_cons (ev_name 0) av_nil)))))
 (bv_one (sv_raise (c := "InvalidWeb") tk rfl PySem.F.excBase_ValueError A.c_InvalidWeb.1 A.g_InvalidWeb A.c_InvalidWeb.2.1 (raises_own A.c_InvalidWeb.2.2.1 A.c_InvalidWeb.2.2.2) rfl))
 bv_nil))
abbrev N_need_place : List Str := ["web", "value"]
theorem sc_need_place : FnScope ["web", "value"] ["web", "value"] (defScope (top 26)) := ⟨rfl, rfl, rfl, by decide +kernel, rfl, by decide +kernel, by decide +kernel⟩
def b_need_place : EL.Env → SO :=
 (sIf (tNotB (tTru (eNew (nCall m_is_whole (aCons (eName 1) (aCons (eK (.int 0)) (aCons (eBin subD (eBin ixD (eName 0) (eK (.int 0))) (eK (.int 1))) aNil)))))))
 (sRaise "InvalidPlace")
 SO.next)
def m_need_place : List EL.Slot → FR := mOf 2 2 b_need_place
theorem ok_need_place (A : Fx K mg) : FK P w K mg base (cvK K) (tbK K) "need_place" 2 m_need_place := by
  obtain ⟨fd, F⟩ := A.d_need_place
  exact fk_of F A.m_need_place sc_need_place (fun _ _ _ _ _ _ us hl => match us, hl with | [_, _], _ => rfl) fun cdv Ar outer s H E O vs as hr =>
   have tk := L2N.takes_of (X := cxOf (L2N.CX P w) P w K mg base ["web", "value"] "need_place" (defScope (top 26)) (He.ga K "need_place") cdv Ar outer s H E) rfl rfl rfl rfl
   (bv_one (sv_if (tv_not (tv_truth (ev_new (nv_call (ok_is_whole A) (by decide) hr rfl tk (av_cons (ev_name 1) (av_cons ev_int (av_cons (ev_sub (ev_ix (ev_name 0) ev_int) ev_int) av_nil)))))))
 (bv_one (sv_raise (c := "InvalidPlace") tk rfl PySem.F.excBase_ValueError A.c_InvalidPlace.1 A.g_InvalidPlace A.c_InvalidPlace.2.1 (raises_own A.c_InvalidPlace.2.2.1 A.c_InvalidPlace.2.2.2) rfl))
 bv_nil))
abbrev N_is_web : List Str := ["value"]
theorem sc_is_web : FnScope ["value"] ["value"] (defScope (top 27)) := ⟨rfl, rfl, rfl, by decide +kernel, rfl, by decide +kernel, by decide +kernel⟩
def b_is_web : EL.Env → SO :=
 (sRet (eNew (nCall m_fits_web (aCons (eName 0) aNil))))
def m_is_web : List EL.Slot → FR := mOf 1 1 b_is_web
theorem ok_is_web (A : Fx K mg) : FK P w K mg base (cvK K) (tbK K) "is_web" 4 m_is_web := by
  obtain ⟨fd, F⟩ := A.d_is_web
  exact fk_of F A.m_is_web sc_is_web (fun _ _ _ _ _ _ us hl => match us, hl with | [_], _ => rfl) fun cdv Ar outer s H E O vs as hr =>
   have tk := L2N.takes_of (X := cxOf (L2N.CX P w) P w K mg base ["value"] "is_web" (defScope (top 27)) (He.ga K "is_web") cdv Ar outer s H E) rfl rfl rfl rfl
   (bv_one (sv_ret (ev_new (nv_call (ok_fits_web A) (by decide) hr rfl tk (av_cons (ev_name 0) av_nil)))))
abbrev N_is_of_threes : List Str := ["web"]
theorem sc_is_of_threes : FnScope ["web"] ["web"] (defScope (top 28)) := ⟨rfl, rfl, rfl, by decide +kernel, rfl, by decide +kernel, by decide +kernel⟩
def b_is_of_threes : EL.Env → SO :=
 (sSeq (sExpr (eNew (nCall m_need_web (aCons (eName 0) aNil))))
 (sRet (eNew (nCall m_fits_threes (aCons (eName 0) aNil)))))
def m_is_of_threes : List EL.Slot → FR := mOf 1 1 b_is_of_threes
theorem ok_is_of_threes (A : Fx K mg) : FK P w K mg base (cvK K) (tbK K) "is_of_threes" 5 m_is_of_threes := by
  obtain ⟨fd, F⟩ := A.d_is_of_threes
  exact fk_of F A.m_is_of_threes sc_is_of_threes (fun _ _ _ _ _ _ us hl => match us, hl with | [_], _ => rfl) fun cdv Ar outer s H E O vs as hr =>
   have tk := L2N.takes_of (X := cxOf (L2N.CX P w) P w K mg base ["web"] "is_of_threes" (defScope (top 28)) (He.ga K "is_of_threes") cdv Ar outer s H E) rfl rfl rfl rfl
   (bv_cons (sv_expr (ev_new (nv_call (ok_need_web A) (by decide) hr rfl tk (av_cons (ev_name 0) av_nil))))
 (bv_one (sv_ret (ev_new (nv_call (ok_fits_threes A) (by decide) hr rfl tk (av_cons (ev_name 0) av_nil))))))
abbrev N_tied : List Str := ["web", "place"]
theorem sc_tied : FnScope ["web", "place"] ["web", "place"] (defScope (top 29)) := ⟨rfl, rfl, rfl, by decide +kernel, rfl, by decide +kernel, by decide +kernel⟩
def b_tied : EL.Env → SO :=
 (sSeq (sExpr (eNew (nCall m_need_web (aCons (eName 0) aNil))))
 (sSeq (sExpr (eNew (nCall m_need_place (aCons (eName 0) (aCons (eName 1) aNil)))))
 (sRet (eNew (nCall m_near (aCons (eName 0) (aCons (eName 1) aNil)))))))
def m_tied : List EL.Slot → FR := mOf 2 2 b_tied
theorem ok_tied (A : Fx K mg) : FK P w K mg base (cvK K) (tbK K) "tied" 5 m_tied := by
  obtain ⟨fd, F⟩ := A.d_tied
  exact fk_of F A.m_tied sc_tied (fun _ _ _ _ _ _ us hl => match us, hl with | [_, _], _ => rfl) fun cdv Ar outer s H E O vs as hr =>
   have tk := L2N.takes_of (X := cxOf (L2N.CX P w) P w K mg base ["web", "place"] "tied" (defScope (top 29)) (He.ga K "tied") cdv Ar outer s H E) rfl rfl rfl rfl
   (bv_cons (sv_expr (ev_new (nv_call (ok_need_web A) (by decide) hr rfl tk (av_cons (ev_name 0) av_nil))))
 (bv_cons (sv_expr (ev_new (nv_call (ok_need_place A) (by decide) hr rfl tk (av_cons (ev_name 0) (av_cons (ev_name 1) av_nil)))))
 (bv_one (sv_ret (ev_new (nv_call (ok_near A) (by decide) hr rfl tk (av_cons (ev_name 0) (av_cons (ev_name 1) av_nil))))))))
abbrev N__law_drum : List Str := ["cell", "turn", "great"]
theorem sc__law_drum : FnScope ["cell", "turn", "great"] ["cell", "turn"] (defScope (top 31)) := ⟨rfl, rfl, rfl, by decide +kernel, rfl, by decide +kernel, by decide +kernel⟩
def b__law_drum : EL.Env → SO :=
 (sSeq (sSet 2 (eIf (tBl (eBin geD (eName 0) (eBin powD (eK (.int 10)) (eK (.int 18))))) (eBin addD (eBin fdivD (eName 0) (eK (.int 7))) (eBin mulD (eK (.int 61)) (eName 1))) (eK (.int 0))))
 (sRetF (fLst (aCons (eName 2) (aCons (eBin addD (eBin modD (eCallV intD (aCons (eBin addD (eBin mulD (eName 0) (eK (.int 97))) (eBin mulD (eK (.int 1087)) (eName 1))) aNil)) (eK (.int 2077504273))) (eK (.int 71))) aNil)))))
def m__law_drum : List EL.Slot → FR := mOf 2 3 b__law_drum
theorem ok__law_drum (A : Fx K mg) : FK P w K mg base (cvK K) (tbK K) "_law_drum" 1 m__law_drum := by
  obtain ⟨fd, F⟩ := A.d__law_drum
  exact fk_of F A.m__law_drum sc__law_drum (fun _ _ _ _ _ _ us hl => match us, hl with | [_, _], _ => rfl) fun cdv Ar outer s H E O vs as hr =>
   have tk := L2N.takes_of (X := cxOf (L2N.CX P w) P w K mg base ["cell", "turn", "great"] "_law_drum" (defScope (top 31)) (He.ga K "_law_drum") cdv Ar outer s H E) rfl rfl rfl rfl
   (bv_cons (sv_set 2 (ev_if (tv_ge (ev_name 0) (ev_pow ev_int ev_int)) (ev_add (ev_fdiv (ev_name 0) ev_int) (ev_mul ev_int (ev_name 1))) ev_int) sc__law_drum.nd)
 (bv_one (sv_retF (fv_lst (av_cons (ev_name 2) (av_cons (ev_add (ev_mod (ev_cint rfl A.b_int (av_cons (ev_add (ev_mul (ev_name 0) ev_int) (ev_mul ev_int (ev_name 1))) av_nil)) ev_int) ev_int) av_nil))))))
abbrev N__law_roll : List Str := ["drum", "many", "found", "deep"]
theorem sc__law_roll : FnScope ["drum", "many", "found", "deep"] ["drum", "many"] (defScope (top 32)) := ⟨rfl, rfl, rfl, by decide +kernel, rfl, by decide +kernel, by decide +kernel⟩
def b__law_roll : EL.Env → SO :=
 (sSeq (sIf (tBl (eBin gtD (eBin ixD (eName 0) (eK (.int 0))) (eK (.int 0))))
 (sSeq (sSet 2 (eBin modD (eCallV intD (aCons (eBin ixD (eName 0) (eK (.int 0))) aNil)) (eName 1)))
 (sSeq (sPut 0 (eBin fdivD (eBin ixD (eName 0) (eK (.int 0))) (eName 1)) (eK (.int 0)))
 (sRet (eName 2))))
 SO.next)
 (sSeq (sPut 0 (eBin modD (eCallV intD (aCons (eBin addD (eBin mulD (eBin ixD (eName 0) (eK (.int 1))) (eK (.int 30671))) (eK (.int 8807))) aNil)) (eK (.int 2147483549))) (eK (.int 1)))
 (sSeq (sSet 3 (eBin modD (eCallV intD (aCons (eBin mulD (eBin ixD (eName 0) (eK (.int 1))) (eBin addD (eBin ixD (eName 0) (eK (.int 1))) (eK (.int 101)))) aNil)) (eK (.int 2147483587))))
 (sRet (eBin modD (eCallV intD (aCons (eBin fdivD (eName 3) (eK (.int 613))) aNil)) (eName 1))))))
def m__law_roll : List EL.Slot → FR := mOf 2 4 b__law_roll
theorem ok__law_roll (A : Fx K mg) : FK P w K mg base (cvK K) (tbK K) "_law_roll" 1 m__law_roll := by
  obtain ⟨fd, F⟩ := A.d__law_roll
  exact fk_of F A.m__law_roll sc__law_roll (fun _ _ _ _ _ _ us hl => match us, hl with | [_, _], _ => rfl) fun cdv Ar outer s H E O vs as hr =>
   have tk := L2N.takes_of (X := cxOf (L2N.CX P w) P w K mg base ["drum", "many", "found", "deep"] "_law_roll" (defScope (top 32)) (He.ga K "_law_roll") cdv Ar outer s H E) rfl rfl rfl rfl
   (bv_cons (sv_if (tv_gt (ev_ix (ev_name 0) ev_int) ev_int)
 (bv_cons (sv_set 2 (ev_mod (ev_cint rfl A.b_int (av_cons (ev_ix (ev_name 0) ev_int) av_nil)) (ev_name 1)) sc__law_roll.nd)
 (bv_cons (sv_put 0 (ev_fdiv (ev_ix (ev_name 0) ev_int) (ev_name 1)) ev_int rfl (by first | exact Or.inl rfl | exact Or.inr (Or.inl rfl) | exact Or.inr (Or.inr rfl)))
 (bv_one (sv_ret (ev_name 2)))))
 bv_nil)
 (bv_cons (sv_put 0 (ev_mod (ev_cint rfl A.b_int (av_cons (ev_add (ev_mul (ev_ix (ev_name 0) ev_int) ev_int) ev_int) av_nil)) ev_int) ev_int rfl (by first | exact Or.inl rfl | exact Or.inr (Or.inl rfl) | exact Or.inr (Or.inr rfl)))
 (bv_cons (sv_set 3 (ev_mod (ev_cint rfl A.b_int (av_cons (ev_mul (ev_ix (ev_name 0) ev_int) (ev_add (ev_ix (ev_name 0) ev_int) ev_int)) av_nil)) ev_int) sc__law_roll.nd)
 (bv_one (sv_ret (ev_mod (ev_cint rfl A.b_int (av_cons (ev_fdiv (ev_name 3) ev_int) av_nil)) (ev_name 1)))))))
abbrev N__law_some : List Str := ["drum", "things"]
theorem sc__law_some : FnScope ["drum", "things"] ["drum", "things"] (defScope (top 33)) := ⟨rfl, rfl, rfl, by decide +kernel, rfl, by decide +kernel, by decide +kernel⟩
def b__law_some : EL.Env → SO :=
 (sRet (eBin ixD (eName 1) (eNew (nCall m__law_roll (aCons (eName 0) (aCons (eCallV lenD (aCons (eName 1) aNil)) aNil))))))
def m__law_some : List EL.Slot → FR := mOf 2 2 b__law_some
theorem ok__law_some (A : Fx K mg) : FK P w K mg base (cvK K) (tbK K) "_law_some" 2 m__law_some := by
  obtain ⟨fd, F⟩ := A.d__law_some
  exact fk_of F A.m__law_some sc__law_some (fun _ _ _ _ _ _ us hl => match us, hl with | [_, _], _ => rfl) fun cdv Ar outer s H E O vs as hr =>
   have tk := L2N.takes_of (X := cxOf (L2N.CX P w) P w K mg base ["drum", "things"] "_law_some" (defScope (top 33)) (He.ga K "_law_some") cdv Ar outer s H E) rfl rfl rfl rfl
   (bv_one (sv_ret (ev_ix (ev_name 1) (ev_new (nv_call (ok__law_roll A) (by decide) hr rfl tk (av_cons (ev_name 0) (av_cons (ev_len rfl A.b_len (av_cons (ev_name 1) av_nil)) av_nil)))))))
abbrev N__law_pairs : List Str := ["places", "found", "one", "other"]
theorem sc__law_pairs : FnScope ["places", "found", "one", "other"] ["places"] (defScope (top 34)) := ⟨rfl, rfl, rfl, by decide +kernel, rfl, by decide +kernel, by decide +kernel⟩
def b__law_pairs : EL.Env → SO :=
 (sSeq (sSet 1 (eLst aNil))
 (sSeq (sFor (iRng rng1 (aCons (eName 0) aNil)) (gSet 2)
 (sSet 1 (eBin addD (eName 1) (eFresh (eCompL (iRng rng2 (aCons (eBin addD (eName 2) (eK (.int 1))) (aCons (eName 0) aNil))) [3] (gSet 3) tYesB (eTup (aCons (eName 2) (aCons (eName 3) aNil))))))))
 (sRet (eName 1))))
def m__law_pairs : List EL.Slot → FR := mOf 1 4 b__law_pairs
theorem ok__law_pairs (A : Fx K mg) : FK P w K mg base (cvK K) (tbK K) "_law_pairs" 1 m__law_pairs := by
  obtain ⟨fd, F⟩ := A.d__law_pairs
  exact fk_of F A.m__law_pairs sc__law_pairs (fun _ _ _ _ _ _ us hl => match us, hl with | [_], _ => rfl) fun cdv Ar outer s H E O vs as hr =>
   have tk := L2N.takes_of (X := cxOf (L2N.CX P w) P w K mg base ["places", "found", "one", "other"] "_law_pairs" (defScope (top 34)) (He.ga K "_law_pairs") cdv Ar outer s H E) rfl rfl rfl rfl
   (bv_cons (sv_set 1 (ev_lst av_nil) sc__law_pairs.nd)
 (bv_cons (sv_for (L2.passes_of rfl) (iv_rng1 (av_cons (ev_name 0) av_nil) rfl A.b_range) (gv_name 2 sc__law_pairs.nd)
 (bv_one (sv_set 1 (ev_add (ev_name 1) (ev_fresh (fv_comp (own := [("other", 3)]) sc__law_pairs.nd (blkOk_by (by show blkC N__law_pairs (defScope (top 34)) _ _ = true; decide +kernel)) (iv_rng2 (av_cons (ev_add (ev_name 2) ev_int) (av_cons (ev_name 0) av_nil)) rfl A.b_range) (fun _ _ _ _ _ => (gv_name 3 sc__law_pairs.nd)) (fun _ _ _ _ _ => tsv_nil) (fun _ _ _ _ _ => (ev_tup (av_cons (ev_name 2) (av_cons (ev_name 3) av_nil))))))) sc__law_pairs.nd)))
 (bv_one (sv_ret (ev_name 1)))))
abbrev N__law_tie : List Str := ["one", "other"]
theorem sc__law_tie : FnScope ["one", "other"] ["one", "other"] (defScope (top 35)) := ⟨rfl, rfl, rfl, by decide +kernel, rfl, by decide +kernel, by decide +kernel⟩
def b__law_tie : EL.Env → SO :=
 (sRet (eIf (tBl (eBin ltD (eName 0) (eName 1))) (eTup (aCons (eName 0) (aCons (eName 1) aNil))) (eTup (aCons (eName 1) (aCons (eName 0) aNil)))))
def m__law_tie : List EL.Slot → FR := mOf 2 2 b__law_tie
theorem ok__law_tie (A : Fx K mg) : FK P w K mg base (cvK K) (tbK K) "_law_tie" 1 m__law_tie := by
  obtain ⟨fd, F⟩ := A.d__law_tie
  exact fk_of F A.m__law_tie sc__law_tie (fun _ _ _ _ _ _ us hl => match us, hl with | [_, _], _ => rfl) fun cdv Ar outer s H E O vs as hr =>
   have tk := L2N.takes_of (X := cxOf (L2N.CX P w) P w K mg base ["one", "other"] "_law_tie" (defScope (top 35)) (He.ga K "_law_tie") cdv Ar outer s H E) rfl rfl rfl rfl
   (bv_one (sv_ret (ev_if (tv_lt hr (ev_name 0) (ev_name 1)) (ev_tup (av_cons (ev_name 0) (av_cons (ev_name 1) av_nil))) (ev_tup (av_cons (ev_name 1) (av_cons (ev_name 0) av_nil))))))
abbrev N__law_near : List Str := ["web_so", "place", "found", "one", "other"]
theorem sc__law_near : FnScope ["web_so", "place", "found", "one", "other"] ["web_so", "place"] (defScope (top 36)) := ⟨rfl, rfl, rfl, by decide +kernel, rfl, by decide +kernel, by decide +kernel⟩
def b__law_near : EL.Env → SO :=
 (sSeq (sSet 2 (eLst aNil))
 (sSeq (sFor (iSeq (eBin ixD (eName 0) (eK (.int 1)))) (gTupD [3, 4])
 (sSet 2 (eBin addD (eName 2) (eIf (tBl (eBin eqD (eName 3) (eName 1))) (eLst (aCons (eName 4) aNil)) (eIf (tBl (eBin eqD (eName 4) (eName 1))) (eLst (aCons (eName 3) aNil)) (eLst aNil))))))
 (sRet (eCallV sortedD (aCons (eName 2) aNil)))))
def m__law_near : List EL.Slot → FR := mOf 2 5 b__law_near
theorem ok__law_near (A : Fx K mg) : FK P w K mg base (cvK K) (tbK K) "_law_near" 1 m__law_near := by
  obtain ⟨fd, F⟩ := A.d__law_near
  exact fk_of F A.m__law_near sc__law_near (fun _ _ _ _ _ _ us hl => match us, hl with | [_, _], _ => rfl) fun cdv Ar outer s H E O vs as hr =>
   have tk := L2N.takes_of (X := cxOf (L2N.CX P w) P w K mg base ["web_so", "place", "found", "one", "other"] "_law_near" (defScope (top 36)) (He.ga K "_law_near") cdv Ar outer s H E) rfl rfl rfl rfl
   (bv_cons (sv_set 2 (ev_lst av_nil) sc__law_near.nd)
 (bv_cons (sv_for (L2.passes_of rfl) (iv_seq (ev_ix (ev_name 0) ev_int)) (gv_tup (gsv_cons 3 (gsv_cons 4 gsv_nil sc__law_near.nd) sc__law_near.nd))
 (bv_one (sv_set 2 (ev_add (ev_name 2) (ev_if (tv_eq hr (ev_name 3) (ev_name 1)) (ev_lst (av_cons (ev_name 4) av_nil)) (ev_if (tv_eq hr (ev_name 4) (ev_name 1)) (ev_lst (av_cons (ev_name 3) av_nil)) (ev_lst av_nil)))) sc__law_near.nd)))
 (bv_one (sv_ret (ev_sorted hr rfl A.b_sorted (av_cons (ev_name 2) av_nil))))))
abbrev N__law_written : List Str := ["prism", "cross", "some", "cube"]
theorem sc__law_written : FnScope ["prism", "cross", "some", "cube"] [] (defScope (top 37)) := ⟨rfl, rfl, rfl, by decide +kernel, rfl, by decide +kernel, by decide +kernel⟩
def b__law_written : EL.Env → SO :=
 (sSeq (sSet 0 (eTup (aCons (eK (.int 6)) (aCons (eTup (aCons (eTup (aCons (eK (.int 0)) (aCons (eK (.int 1)) aNil))) (aCons (eTup (aCons (eK (.int 0)) (aCons (eK (.int 2)) aNil))) (aCons (eTup (aCons (eK (.int 0)) (aCons (eK (.int 3)) aNil))) (aCons (eTup (aCons (eK (.int 1)) (aCons (eK (.int 2)) aNil))) (aCons (eTup (aCons (eK (.int 1)) (aCons (eK (.int 4)) aNil))) (aCons (eTup (aCons (eK (.int 2)) (aCons (eK (.int 5)) aNil))) (aCons (eTup (aCons (eK (.int 3)) (aCons (eK (.int 4)) aNil))) (aCons (eTup (aCons (eK (.int 3)) (aCons (eK (.int 5)) aNil))) (aCons (eTup (aCons (eK (.int 4)) (aCons (eK (.int 5)) aNil))) aNil)))))))))) aNil))))
 (sSeq (sSet 1 (eTup (aCons (eK (.int 6)) (aCons (eTup (aCons (eTup (aCons (eK (.int 0)) (aCons (eK (.int 1)) aNil))) (aCons (eTup (aCons (eK (.int 0)) (aCons (eK (.int 3)) aNil))) (aCons (eTup (aCons (eK (.int 0)) (aCons (eK (.int 5)) aNil))) (aCons (eTup (aCons (eK (.int 1)) (aCons (eK (.int 2)) aNil))) (aCons (eTup (aCons (eK (.int 1)) (aCons (eK (.int 4)) aNil))) (aCons (eTup (aCons (eK (.int 2)) (aCons (eK (.int 3)) aNil))) (aCons (eTup (aCons (eK (.int 2)) (aCons (eK (.int 5)) aNil))) (aCons (eTup (aCons (eK (.int 3)) (aCons (eK (.int 4)) aNil))) (aCons (eTup (aCons (eK (.int 4)) (aCons (eK (.int 5)) aNil))) aNil)))))))))) aNil))))
 (sSeq (sSet 2 (eLst (aCons (eTup (aCons (eK (.int 4)) (aCons (eCallV tupleD (aCons (eNew (nCall m__law_pairs (aCons (eK (.int 4)) aNil))) aNil)) aNil))) (aCons (eName 0) (aCons (eName 1) (aCons (eTup (aCons (eK (.int 4)) (aCons (eTup (aCons (eTup (aCons (eK (.int 0)) (aCons (eK (.int 1)) aNil))) (aCons (eTup (aCons (eK (.int 0)) (aCons (eK (.int 2)) aNil))) (aCons (eTup (aCons (eK (.int 0)) (aCons (eK (.int 3)) aNil))) aNil)))) aNil))) (aCons (eTup (aCons (eK (.int 6)) (aCons (eCallV tupleD (aCons (eNew (nCall m__law_pairs (aCons (eK (.int 6)) aNil))) aNil)) aNil))) aNil)))))))
 (sSeq (sSet 3 (eTup (aCons (eTup (aCons (eK (.int 0)) (aCons (eK (.int 1)) aNil))) (aCons (eTup (aCons (eK (.int 0)) (aCons (eK (.int 3)) aNil))) (aCons (eTup (aCons (eK (.int 0)) (aCons (eK (.int 4)) aNil))) (aCons (eTup (aCons (eK (.int 1)) (aCons (eK (.int 2)) aNil))) (aCons (eTup (aCons (eK (.int 1)) (aCons (eK (.int 5)) aNil))) (aCons (eTup (aCons (eK (.int 2)) (aCons (eK (.int 3)) aNil))) (aCons (eTup (aCons (eK (.int 2)) (aCons (eK (.int 6)) aNil))) (aCons (eTup (aCons (eK (.int 3)) (aCons (eK (.int 7)) aNil))) (aCons (eTup (aCons (eK (.int 4)) (aCons (eK (.int 5)) aNil))) (aCons (eTup (aCons (eK (.int 4)) (aCons (eK (.int 7)) aNil))) (aCons (eTup (aCons (eK (.int 5)) (aCons (eK (.int 6)) aNil))) (aCons (eTup (aCons (eK (.int 6)) (aCons (eK (.int 7)) aNil))) aNil))))))))))))))
 (sRet (eBin addD (eName 2) (eLst (aCons (eTup (aCons (eK (.int 8)) (aCons (eName 3) aNil))) aNil))))))))
def m__law_written : List EL.Slot → FR := mOf 0 4 b__law_written
theorem ok__law_written (A : Fx K mg) : FK P w K mg base (cvK K) (tbK K) "_law_written" 2 m__law_written := by
  obtain ⟨fd, F⟩ := A.d__law_written
  exact fk_of F A.m__law_written sc__law_written (fun _ _ _ _ _ _ us hl => match us, hl with | [], _ => rfl) fun cdv Ar outer s H E O vs as hr =>
   have tk := L2N.takes_of (X := cxOf (L2N.CX P w) P w K mg base ["prism", "cross", "some", "cube"] "_law_written" (defScope (top 37)) (He.ga K "_law_written") cdv Ar outer s H E) rfl rfl rfl rfl
   (bv_cons (sv_set 0 (ev_tup (av_cons ev_int (av_cons (ev_tup (av_cons (ev_tup (av_cons ev_int (av_cons ev_int av_nil))) (av_cons (ev_tup (av_cons ev_int (av_cons ev_int av_nil))) (av_cons (ev_tup (av_cons ev_int (av_cons ev_int av_nil))) (av_cons (ev_tup (av_cons ev_int (av_cons ev_int av_nil))) (av_cons (ev_tup (av_cons ev_int (av_cons ev_int av_nil))) (av_cons (ev_tup (av_cons ev_int (av_cons ev_int av_nil))) (av_cons (ev_tup (av_cons ev_int (av_cons ev_int av_nil))) (av_cons (ev_tup (av_cons ev_int (av_cons ev_int av_nil))) (av_cons (ev_tup (av_cons ev_int (av_cons ev_int av_nil))) av_nil)))))))))) av_nil))) sc__law_written.nd)
 (bv_cons (sv_set 1 (ev_tup (av_cons ev_int (av_cons (ev_tup (av_cons (ev_tup (av_cons ev_int (av_cons ev_int av_nil))) (av_cons (ev_tup (av_cons ev_int (av_cons ev_int av_nil))) (av_cons (ev_tup (av_cons ev_int (av_cons ev_int av_nil))) (av_cons (ev_tup (av_cons ev_int (av_cons ev_int av_nil))) (av_cons (ev_tup (av_cons ev_int (av_cons ev_int av_nil))) (av_cons (ev_tup (av_cons ev_int (av_cons ev_int av_nil))) (av_cons (ev_tup (av_cons ev_int (av_cons ev_int av_nil))) (av_cons (ev_tup (av_cons ev_int (av_cons ev_int av_nil))) (av_cons (ev_tup (av_cons ev_int (av_cons ev_int av_nil))) av_nil)))))))))) av_nil))) sc__law_written.nd)
 (bv_cons (sv_set 2 (ev_lst (av_cons (ev_tup (av_cons ev_int (av_cons (ev_ctuple rfl A.b_tuple (av_cons (ev_new (nv_call (ok__law_pairs A) (by decide) hr rfl tk (av_cons ev_int av_nil))) av_nil)) av_nil))) (av_cons (ev_name 0) (av_cons (ev_name 1) (av_cons (ev_tup (av_cons ev_int (av_cons (ev_tup (av_cons (ev_tup (av_cons ev_int (av_cons ev_int av_nil))) (av_cons (ev_tup (av_cons ev_int (av_cons ev_int av_nil))) (av_cons (ev_tup (av_cons ev_int (av_cons ev_int av_nil))) av_nil)))) av_nil))) (av_cons (ev_tup (av_cons ev_int (av_cons (ev_ctuple rfl A.b_tuple (av_cons (ev_new (nv_call (ok__law_pairs A) (by decide) hr rfl tk (av_cons ev_int av_nil))) av_nil)) av_nil))) av_nil)))))) sc__law_written.nd)
 (bv_cons (sv_set 3 (ev_tup (av_cons (ev_tup (av_cons ev_int (av_cons ev_int av_nil))) (av_cons (ev_tup (av_cons ev_int (av_cons ev_int av_nil))) (av_cons (ev_tup (av_cons ev_int (av_cons ev_int av_nil))) (av_cons (ev_tup (av_cons ev_int (av_cons ev_int av_nil))) (av_cons (ev_tup (av_cons ev_int (av_cons ev_int av_nil))) (av_cons (ev_tup (av_cons ev_int (av_cons ev_int av_nil))) (av_cons (ev_tup (av_cons ev_int (av_cons ev_int av_nil))) (av_cons (ev_tup (av_cons ev_int (av_cons ev_int av_nil))) (av_cons (ev_tup (av_cons ev_int (av_cons ev_int av_nil))) (av_cons (ev_tup (av_cons ev_int (av_cons ev_int av_nil))) (av_cons (ev_tup (av_cons ev_int (av_cons ev_int av_nil))) (av_cons (ev_tup (av_cons ev_int (av_cons ev_int av_nil))) av_nil))))))))))))) sc__law_written.nd)
 (bv_one (sv_ret (ev_add (ev_name 2) (ev_lst (av_cons (ev_tup (av_cons ev_int (av_cons (ev_name 3) av_nil))) av_nil)))))))))
abbrev N__law_threes : List Str := ["drum", "most", "places", "left", "order", "turn", "ties_so", "at", "bare", "one", "some", "other"]
theorem sc__law_threes : FnScope ["drum", "most", "places", "left", "order", "turn", "ties_so", "at", "bare", "one", "some", "other"] ["drum", "most"] (defScope (top 38)) := ⟨rfl, rfl, rfl, by decide +kernel, rfl, by decide +kernel, by decide +kernel⟩
def b__law_threes : EL.Env → SO :=
 (sSeq (sSet 2 (eBin addD (eK (.int 4)) (eBin mulD (eK (.int 2)) (eNew (nCall m__law_roll (aCons (eName 0) (aCons (eBin fdivD (eBin subD (eName 1) (eK (.int 2))) (eK (.int 2))) aNil)))))))
 (sSeq (sPar 3 4 (nFv (fRg (eName 2))) (nFv (fLst aNil)))
 (sSeq (sFor (iRng rng1 (aCons (eName 2) aNil)) (gSet 5)
 (sExpr (eMeth appO 4 (aCons (eMeth popO 3 (aCons (eNew (nCall m__law_roll (aCons (eName 0) (aCons (eCallV lenD (aCons (eName 3) aNil)) aNil)))) aNil)) aNil))))
 (sSeq (sNew 6 (nFv (eCompL (iRng rng1 (aCons (eName 2) aNil)) [7] (gSet 7) tYesB (eNew (nCall m__law_tie (aCons (eBin ixD (eName 4) (eName 7)) (aCons (eBin ixD (eName 4) (eBin subD (eName 7) (eK (.int 1)))) aNil)))))))
 (sSeq (sNew 8 (nFv (fRg (eName 2))))
 (sSeq (sFor (iRng rng1 (aCons (eBin fdivD (eName 2) (eK (.int 2))) aNil)) (gSet 5)
 (sSeq (sSet 9 (eMeth popO 8 (aCons (eK (.int 0)) aNil)))
 (sSeq (sSet 10 (eFresh (eCompL (iSeq (eName 8)) [11] (gSet 11) (tBl (eBin ninD (eNew (nCall m__law_tie (aCons (eName 9) (aCons (eName 11) aNil)))) (eName 6))) (eName 11))))
 (sSeq (sIf (tBl (eBin eqD (eName 10) (eLst aNil)))
 (sRet (eNew (nCall m__law_some (aCons (eName 0) (aCons (eSl (eNew (nCall m__law_written aNil)) poNone (poSome (eK (.int 3)))) aNil)))))
 SO.next)
 (sSeq (sSet 11 (eNew (nCall m__law_some (aCons (eName 0) (aCons (eName 10) aNil)))))
 (sSeq (sExpr (eMeth remO 8 (aCons (eName 11) aNil)))
 (sExpr (eMeth appO 6 (aCons (eNew (nCall m__law_tie (aCons (eName 9) (aCons (eName 11) aNil)))) aNil)))))))))
 (sRet (eTup (aCons (eName 2) (aCons (eCallV tupleD (aCons (eCallV sortedD (aCons (eName 6) aNil)) aNil)) aNil))))))))))
def m__law_threes : List EL.Slot → FR := mOf 2 12 b__law_threes
theorem ok__law_threes (A : Fx K mg) : FK P w K mg base (cvK K) (tbK K) "_law_threes" 3 m__law_threes := by
  obtain ⟨fd, F⟩ := A.d__law_threes
  exact fk_of F A.m__law_threes sc__law_threes (fun _ _ _ _ _ _ us hl => match us, hl with | [_, _], _ => rfl) fun cdv Ar outer s H E O vs as hr =>
   have tk := L2N.takes_of (X := cxOf (L2N.CX P w) P w K mg base ["drum", "most", "places", "left", "order", "turn", "ties_so", "at", "bare", "one", "some", "other"] "_law_threes" (defScope (top 38)) (He.ga K "_law_threes") cdv Ar outer s H E) rfl rfl rfl rfl
   (bv_cons (sv_set 2 (ev_add ev_int (ev_mul ev_int (ev_new (nv_call (ok__law_roll A) (by decide) hr rfl tk (av_cons (ev_name 0) (av_cons (ev_fdiv (ev_sub (ev_name 1) ev_int) ev_int) av_nil)))))) sc__law_threes.nd)
 (bv_cons (sv_parT 3 4 (nv_fv (fv_listRg (ev_name 2) rfl A.b_list rfl A.b_range)) (nv_fv (fv_lst av_nil)) sc__law_threes.nd)
 (bv_cons (sv_for (L2.passes_of rfl) (iv_rng1 (av_cons (ev_name 2) av_nil) rfl A.b_range) (gv_name 5 sc__law_threes.nd)
 (bv_one (sv_expr (ev_meth PySem.F.slot_list_append PySem.F.type_list_append mt_append me_append rfl (by first | exact Or.inl rfl | exact Or.inr (Or.inl rfl) | exact Or.inr (Or.inr rfl)) (av_cons (ev_meth PySem.F.slot_list_pop PySem.F.type_list_pop mt_popAt me_pop rfl (by first | exact Or.inl rfl | exact Or.inr (Or.inl rfl) | exact Or.inr (Or.inr rfl)) (av_cons (ev_new (nv_call (ok__law_roll A) (by decide) hr rfl tk (av_cons (ev_name 0) (av_cons (ev_len rfl A.b_len (av_cons (ev_name 3) av_nil)) av_nil)))) av_nil)) av_nil)))))
 (bv_cons (sv_new 6 (nv_fv (fv_comp (own := [("at", 7)]) sc__law_threes.nd (blkOk_by (by show blkC N__law_threes (defScope (top 38)) _ _ = true; decide +kernel)) (iv_rng1 (av_cons (ev_name 2) av_nil) rfl A.b_range) (fun _ _ _ _ _ => (gv_name 7 sc__law_threes.nd)) (fun _ _ _ _ _ => tsv_nil) (fun _ _ _ _ _ => (ev_new (nv_call (ok__law_tie A) (by decide) hr rfl takes0N (av_cons (ev_ix (ev_name 4) (ev_name 7)) (av_cons (ev_ix (ev_name 4) (ev_sub (ev_name 7) ev_int)) av_nil))))))) sc__law_threes.nd)
 (bv_cons (sv_new 8 (nv_fv (fv_listRg (ev_name 2) rfl A.b_list rfl A.b_range)) sc__law_threes.nd)
 (bv_cons (sv_for (L2.passes_of rfl) (iv_rng1 (av_cons (ev_fdiv (ev_name 2) ev_int) av_nil) rfl A.b_range) (gv_name 5 sc__law_threes.nd)
 (bv_cons (sv_set 9 (ev_meth PySem.F.slot_list_pop PySem.F.type_list_pop mt_popAt me_pop rfl (by first | exact Or.inl rfl | exact Or.inr (Or.inl rfl) | exact Or.inr (Or.inr rfl)) (av_cons ev_int av_nil)) sc__law_threes.nd)
 (bv_cons (sv_setComp 10 (own := [("other", 11)]) sc__law_threes.nd (blkOk_by (by show blkC N__law_threes (defScope (top 38)) _ _ = true; decide +kernel)) (iv_seq (ev_name 8)) (fun _ _ _ _ _ => (gv_name 11 sc__law_threes.nd)) (fun _ _ _ _ _ => (tsv_one (tv_nin hr (ev_new (nv_call (ok__law_tie A) (by decide) hr rfl takes0N (av_cons (ev_name 9) (av_cons (ev_name 11) av_nil)))) (ev_name 6)))) (fun _ _ _ _ _ => (ev_name 11)))
 (bv_cons (sv_if (tv_eq hr (ev_name 10) (ev_lst av_nil))
 (bv_one (sv_ret (ev_new (nv_call (ok__law_some A) (by decide) hr rfl tk (av_cons (ev_name 0) (av_cons (ev_slice (ev_new (nv_call00 (ok__law_written A) (by decide) hr rfl tk)) pov_none (pov_some ev_int)) av_nil))))))
 bv_nil)
 (bv_cons (sv_set 11 (ev_new (nv_call (ok__law_some A) (by decide) hr rfl tk (av_cons (ev_name 0) (av_cons (ev_name 10) av_nil)))) sc__law_threes.nd)
 (bv_cons (sv_expr (ev_meth PySem.F.slot_list_remove PySem.F.type_list_remove mt_remove me_remove rfl (by first | exact Or.inl rfl | exact Or.inr (Or.inl rfl) | exact Or.inr (Or.inr rfl)) (av_cons (ev_name 11) av_nil)))
 (bv_one (sv_expr (ev_meth PySem.F.slot_list_append PySem.F.type_list_append mt_append me_append rfl (by first | exact Or.inl rfl | exact Or.inr (Or.inl rfl) | exact Or.inr (Or.inr rfl)) (av_cons (ev_new (nv_call (ok__law_tie A) (by decide) hr rfl tk (av_cons (ev_name 9) (av_cons (ev_name 11) av_nil)))) av_nil))))))))))
 (bv_one (sv_ret (ev_tup (av_cons (ev_name 2) (av_cons (ev_ctuple rfl A.b_tuple (av_cons (ev_sorted hr rfl A.b_sorted (av_cons (ev_name 6) av_nil)) av_nil)) av_nil)))))))))))
abbrev N__law_odd_web : List Str := ["drum", "places", "ties_so", "tie_so", "place", "many", "pair"]
theorem sc__law_odd_web : FnScope ["drum", "places", "ties_so", "tie_so", "place", "many", "pair"] ["drum"] (defScope (top 39)) := ⟨rfl, rfl, rfl, by decide +kernel, rfl, by decide +kernel, by decide +kernel⟩
def b__law_odd_web : EL.Env → SO :=
 (sSeq (sIf (tBl (eBin eqD (eNew (nCall m__law_roll (aCons (eName 0) (aCons (eK (.int 4)) aNil)))) (eK (.int 0))))
 (sRet (eNew (nCall m__law_some (aCons (eName 0) (aCons (eSl (eNew (nCall m__law_written aNil)) poNone (poSome (eK (.int 5)))) aNil)))))
 SO.next)
 (sSeq (sSet 1 (eNew (nCall m__law_some (aCons (eName 0) (aCons (eLst (aCons (eK (.int 4)) (aCons (eK (.int 6)) (aCons (eK (.int 6)) (aCons (eK (.int 6)) aNil))))) aNil)))))
 (sSeq (sSet 2 (eFresh (eCompL (iSeq (eNew (nCall m__law_pairs (aCons (eName 1) aNil)))) [3] (gSet 3) (tBl (eBin gtD (eNew (nCall m__law_roll (aCons (eName 0) (aCons (eK (.int 5)) aNil)))) (eK (.int 1)))) (eName 3))))
 (sSeq (sFor (iRng rng1 (aCons (eBin subD (eName 1) (eK (.int 1))) aNil)) (gSet 4)
 (sSeq (sSet 5 (eCallV lenD (aCons (eFresh (eCompL (iSeq (eName 2)) [3] (gSet 3) (tBl (eBin inD (eName 4) (eName 3))) (eK (.int 1)))) aNil)))
 (sSeq (sSet 6 (eTup (aCons (eName 4) (aCons (eBin subD (eName 1) (eK (.int 1))) aNil))))
 (sIf (tBl (eBin eqD (eBin modD (eName 5) (eK (.int 2))) (eK (.int 0))))
 (sSet 2 (eBin addD (eFresh (eCompL (iSeq (eName 2)) [3] (gSet 3) (tBl (eBin neD (eName 3) (eName 6))) (eName 3))) (eIf (tBl (eBin inD (eName 6) (eName 2))) (eLst aNil) (eLst (aCons (eName 6) aNil)))))
 SO.next))))
 (sRet (eTup (aCons (eName 1) (aCons (eCallV tupleD (aCons (eCallV sortedD (aCons (eName 2) aNil)) aNil)) aNil))))))))
def m__law_odd_web : List EL.Slot → FR := mOf 1 7 b__law_odd_web
theorem ok__law_odd_web (A : Fx K mg) : FK P w K mg base (cvK K) (tbK K) "_law_odd_web" 3 m__law_odd_web := by
  obtain ⟨fd, F⟩ := A.d__law_odd_web
  exact fk_of F A.m__law_odd_web sc__law_odd_web (fun _ _ _ _ _ _ us hl => match us, hl with | [_], _ => rfl) fun cdv Ar outer s H E O vs as hr =>
   have tk := L2N.takes_of (X := cxOf (L2N.CX P w) P w K mg base ["drum", "places", "ties_so", "tie_so", "place", "many", "pair"] "_law_odd_web" (defScope (top 39)) (He.ga K "_law_odd_web") cdv Ar outer s H E) rfl rfl rfl rfl
   (bv_cons (sv_if (tv_eq hr (ev_new (nv_call (ok__law_roll A) (by decide) hr rfl tk (av_cons (ev_name 0) (av_cons ev_int av_nil)))) ev_int)
 (bv_one (sv_ret (ev_new (nv_call (ok__law_some A) (by decide) hr rfl tk (av_cons (ev_name 0) (av_cons (ev_slice (ev_new (nv_call00 (ok__law_written A) (by decide) hr rfl tk)) pov_none (pov_some ev_int)) av_nil))))))
 bv_nil)
 (bv_cons (sv_set 1 (ev_new (nv_call (ok__law_some A) (by decide) hr rfl tk (av_cons (ev_name 0) (av_cons (ev_lst (av_cons ev_int (av_cons ev_int (av_cons ev_int (av_cons ev_int av_nil))))) av_nil)))) sc__law_odd_web.nd)
 (bv_cons (sv_setComp 2 (own := [("tie_so", 3)]) sc__law_odd_web.nd (blkOk_by (by show blkC N__law_odd_web (defScope (top 39)) _ _ = true; decide +kernel)) (iv_seq (ev_new (nv_call (ok__law_pairs A) (by decide) hr rfl tk (av_cons (ev_name 1) av_nil)))) (fun _ _ _ _ _ => (gv_name 3 sc__law_odd_web.nd)) (fun _ _ _ _ _ => (tsv_one (tv_gt (ev_new (nv_call (ok__law_roll A) (by decide) hr rfl takes0N (av_cons (ev_name 0) (av_cons ev_int av_nil)))) ev_int))) (fun _ _ _ _ _ => (ev_name 3)))
 (bv_cons (sv_for (L2.passes_of rfl) (iv_rng1 (av_cons (ev_sub (ev_name 1) ev_int) av_nil) rfl A.b_range) (gv_name 4 sc__law_odd_web.nd)
 (bv_cons (sv_set 5 (ev_len rfl A.b_len (av_cons (ev_fresh (fv_comp (own := [("tie_so", 3)]) sc__law_odd_web.nd (blkOk_by (by show blkC N__law_odd_web (defScope (top 39)) _ _ = true; decide +kernel)) (iv_seq (ev_name 2)) (fun _ _ _ _ _ => (gv_name 3 sc__law_odd_web.nd)) (fun _ _ _ _ _ => (tsv_one (tv_in hr (ev_name 4) (ev_name 3)))) (fun _ _ _ _ _ => ev_int))) av_nil)) sc__law_odd_web.nd)
 (bv_cons (sv_set 6 (ev_tup (av_cons (ev_name 4) (av_cons (ev_sub (ev_name 1) ev_int) av_nil))) sc__law_odd_web.nd)
 (bv_one (sv_if (tv_eq hr (ev_mod (ev_name 5) ev_int) ev_int)
 (bv_one (sv_set 2 (ev_add (ev_fresh (fv_comp (own := [("tie_so", 3)]) sc__law_odd_web.nd (blkOk_by (by show blkC N__law_odd_web (defScope (top 39)) _ _ = true; decide +kernel)) (iv_seq (ev_name 2)) (fun _ _ _ _ _ => (gv_name 3 sc__law_odd_web.nd)) (fun _ _ _ _ _ => (tsv_one (tv_ne hr (ev_name 3) (ev_name 6)))) (fun _ _ _ _ _ => (ev_name 3)))) (ev_if (tv_in hr (ev_name 6) (ev_name 2)) (ev_lst av_nil) (ev_lst (av_cons (ev_name 6) av_nil)))) sc__law_odd_web.nd))
 bv_nil)))))
 (bv_one (sv_ret (ev_tup (av_cons (ev_name 1) (av_cons (ev_ctuple rfl A.b_tuple (av_cons (ev_sorted hr rfl A.b_sorted (av_cons (ev_name 2) av_nil)) av_nil)) av_nil)))))))))
abbrev N__law_web : List Str := ["drum", "most"]
theorem sc__law_web : FnScope ["drum", "most"] ["drum", "most"] (defScope (top 40)) := ⟨rfl, rfl, rfl, by decide +kernel, rfl, by decide +kernel, by decide +kernel⟩
def b__law_web : EL.Env → SO :=
 (sRet (eIf (tBl (eBin gtD (eNew (nCall m__law_roll (aCons (eName 0) (aCons (eK (.int 3)) aNil)))) (eK (.int 0)))) (eNew (nCall m__law_threes (aCons (eName 0) (aCons (eName 1) aNil)))) (eNew (nCall m__law_odd_web (aCons (eName 0) aNil)))))
def m__law_web : List EL.Slot → FR := mOf 2 2 b__law_web
theorem ok__law_web (A : Fx K mg) : FK P w K mg base (cvK K) (tbK K) "_law_web" 4 m__law_web := by
  obtain ⟨fd, F⟩ := A.d__law_web
  exact fk_of F A.m__law_web sc__law_web (fun _ _ _ _ _ _ us hl => match us, hl with | [_, _], _ => rfl) fun cdv Ar outer s H E O vs as hr =>
   have tk := L2N.takes_of (X := cxOf (L2N.CX P w) P w K mg base ["drum", "most"] "_law_web" (defScope (top 40)) (He.ga K "_law_web") cdv Ar outer s H E) rfl rfl rfl rfl
   (bv_one (sv_ret (ev_if (tv_gt (ev_new (nv_call (ok__law_roll A) (by decide) hr rfl tk (av_cons (ev_name 0) (av_cons ev_int av_nil)))) ev_int) (ev_new (nv_call (ok__law_threes A) (by decide) hr rfl tk (av_cons (ev_name 0) (av_cons (ev_name 1) av_nil)))) (ev_new (nv_call (ok__law_odd_web A) (by decide) hr rfl tk (av_cons (ev_name 0) av_nil))))))
abbrev N__law_odd : List Str := ["drum", "depth", "some", "row", "part"]
theorem sc__law_odd : FnScope ["drum", "depth", "some", "row", "part"] ["drum", "depth"] (defScope (top 41)) := ⟨rfl, rfl, rfl, by decide +kernel, rfl, by decide +kernel, by decide +kernel⟩
def b__law_odd (r : List EL.Slot → FR) : EL.Env → SO :=
 (sSeq (sSet 2 (eLst (aCons (eK .non) (aCons (eK (.bl true)) (aCons (eK (.bl false)) (aCons (eK (.int 0)) (aCons (eK (.int 1)) (aCons (eK (.int 2)) (aCons (eK (.int 4)) (aCons (eK (.int 6)) (aCons (eK (.int 11)) (aCons (eNeg (eK (.int 1))) (aCons (eBin powD (eK (.int 10)) (eK (.int 30))) (aCons (eK (.str "")) (aCons (eK (.str "0-1")) (aCons (eTup aNil) (aCons (eLst aNil) (aCons (eTup (aCons (eK (.int 0)) (aCons (eK (.int 1)) aNil))) (aCons (eTup (aCons (eK (.int 1)) (aCons (eK (.int 0)) aNil))) (aCons (eTup (aCons (eK (.int 0)) (aCons (eK (.int 1)) (aCons (eK (.int 2)) (aCons (eK (.int 3)) aNil))))) aNil))))))))))))))))))))
 (sSeq (sSet 2 (eBin addD (eName 2) (eLst (aCons (eTup (aCons (eTup (aCons (eK (.int 0)) (aCons (eK (.int 1)) aNil))) aNil)) (aCons (eTup (aCons (eK (.int 4)) (aCons (eTup (aCons (eTup (aCons (eK (.int 0)) (aCons (eK (.int 1)) aNil))) (aCons (eTup (aCons (eK (.int 2)) (aCons (eK (.int 3)) aNil))) aNil))) aNil))) (aCons (eTup (aCons (eK (.int 4)) (aCons (eTup aNil) aNil))) (aCons (eTup (aCons (eK (.int 0)) (aCons (eK (.int 1)) (aCons (eK (.int 2)) (aCons (eK (.int 2)) (aCons (eK (.int 1)) (aCons (eK (.int 0)) aNil))))))) (aCons (eTup (aCons (eK (.int 0)) (aCons (eK (.int 1)) (aCons (eK (.int 3)) (aCons (eK (.int 2)) aNil))))) aNil))))))))
 (sSeq (sIf (tOrB (tBl (eBin eqD (eName 1) (eK (.int 0)))) (tBl (eBin ltD (eNew (nCall m__law_roll (aCons (eName 0) (aCons (eK (.int 8)) aNil)))) (eK (.int 5)))))
 (sRet (eNew (nCall m__law_some (aCons (eName 0) (aCons (eName 2) aNil)))))
 SO.next)
 (sSeq (sSet 3 (eFresh (eCompL (iRng rng1 (aCons (eNew (nCall m__law_roll (aCons (eName 0) (aCons (eK (.int 5)) aNil)))) aNil)) [4] (gSet 4) tYesB (eNew (nCall r (aCons (eName 0) (aCons (eBin subD (eName 1) (eK (.int 1))) aNil)))))))
 (sRet (eIf (tBl (eBin eqD (eNew (nCall m__law_roll (aCons (eName 0) (aCons (eK (.int 3)) aNil)))) (eK (.int 0)))) (eName 3) (eCallV tupleD (aCons (eName 3) aNil))))))))
def m__law_odd : Nat → List EL.Slot → FR
  | 0 => fun _ => .bad
  | k + 1 => mOf 2 5 (b__law_odd (m__law_odd k))
theorem ok__law_odd (A : Fx K mg) : ∀ k, FK P w K mg base (cvK K) (tbK K) "_law_odd" (2 + k) (m__law_odd k)
  | 0 => by
    obtain ⟨fd, F⟩ := A.d__law_odd
    exact fk_bad (ps := ["drum", "depth"]) F A.m__law_odd (fun _ _ _ _ _ _ us hl => match us, hl with | [_, _], _ => rfl)
  | k + 1 => by
    have ih := ok__law_odd A k
    obtain ⟨fd, F⟩ := A.d__law_odd
    exact fk_of F A.m__law_odd sc__law_odd (fun _ _ _ _ _ _ us hl => match us, hl with | [_, _], _ => rfl) fun cdv Ar outer s H E O vs as hr =>
     have tk := L2N.takes_of (X := cxOf (L2N.CX P w) P w K mg base ["drum", "depth", "some", "row", "part"] "_law_odd" (defScope (top 41)) (He.ga K "_law_odd") cdv Ar outer s H E) rfl rfl rfl rfl
     (bv_cons (sv_set 2 (ev_lst (av_cons ev_non (av_cons ev_bl (av_cons ev_bl (av_cons ev_int (av_cons ev_int (av_cons ev_int (av_cons ev_int (av_cons ev_int (av_cons ev_int (av_cons (ev_neg ev_int) (av_cons (ev_pow ev_int ev_int) (av_cons ev_str (av_cons ev_str (av_cons (ev_tup av_nil) (av_cons (ev_lst av_nil) (av_cons (ev_tup (av_cons ev_int (av_cons ev_int av_nil))) (av_cons (ev_tup (av_cons ev_int (av_cons ev_int av_nil))) (av_cons (ev_tup (av_cons ev_int (av_cons ev_int (av_cons ev_int (av_cons ev_int av_nil))))) av_nil))))))))))))))))))) sc__law_odd.nd)
 (bv_cons (sv_set 2 (ev_add (ev_name 2) (ev_lst (av_cons (ev_tup (av_cons (ev_tup (av_cons ev_int (av_cons ev_int av_nil))) av_nil)) (av_cons (ev_tup (av_cons ev_int (av_cons (ev_tup (av_cons (ev_tup (av_cons ev_int (av_cons ev_int av_nil))) (av_cons (ev_tup (av_cons ev_int (av_cons ev_int av_nil))) av_nil))) av_nil))) (av_cons (ev_tup (av_cons ev_int (av_cons (ev_tup av_nil) av_nil))) (av_cons (ev_tup (av_cons ev_int (av_cons ev_int (av_cons ev_int (av_cons ev_int (av_cons ev_int (av_cons ev_int av_nil))))))) (av_cons (ev_tup (av_cons ev_int (av_cons ev_int (av_cons ev_int (av_cons ev_int av_nil))))) av_nil))))))) sc__law_odd.nd)
 (bv_cons (sv_if (Wv.tv (wv_or (tv_eq hr (ev_name 1) ev_int) (wv_or1 (tv_lt hr (ev_new (nv_call (ok__law_roll A) (Nat.le_trans (m := 2) (by decide) (Nat.le_add_right _ _)) hr rfl tk (av_cons (ev_name 0) (av_cons ev_int av_nil)))) ev_int))))
 (bv_one (sv_ret (ev_new (nv_call (ok__law_some A) (Nat.le_trans (m := 2) (by decide) (Nat.le_add_right _ _)) hr rfl tk (av_cons (ev_name 0) (av_cons (ev_name 2) av_nil))))))
 bv_nil)
 (bv_cons (sv_setComp 3 (own := [("part", 4)]) sc__law_odd.nd (blkOk_by (by show blkC N__law_odd (defScope (top 41)) _ _ = true; decide +kernel)) (iv_rng1 (av_cons (ev_new (nv_call (ok__law_roll A) (Nat.le_trans (m := 2) (by decide) (Nat.le_add_right _ _)) hr rfl tk (av_cons (ev_name 0) (av_cons ev_int av_nil)))) av_nil) rfl A.b_range) (fun _ _ _ _ _ => (gv_name 4 sc__law_odd.nd)) (fun _ _ _ _ _ => tsv_nil) (fun _ _ _ _ _ => (ev_new (nv_call ih (Nat.le_refl _) hr rfl takes0N (av_cons (ev_name 0) (av_cons (ev_sub (ev_name 1) ev_int) av_nil))))))
 (bv_one (sv_ret (ev_if (tv_eq hr (ev_new (nv_call (ok__law_roll A) (Nat.le_trans (m := 2) (by decide) (Nat.le_add_right _ _)) hr rfl tk (av_cons (ev_name 0) (av_cons ev_int av_nil)))) ev_int) (ev_name 3) (ev_ctuple rfl A.b_tuple (av_cons (ev_name 3) av_nil)))))))))
abbrev N__law_bent : List Str := ["drum", "value", "near_v", "at", "way"]
theorem sc__law_bent : FnScope ["drum", "value", "near_v", "at", "way"] ["drum", "value"] (defScope (top 42)) := ⟨rfl, rfl, rfl, by decide +kernel, rfl, by decide +kernel, by decide +kernel⟩
def b__law_bent (r : List EL.Slot → FR) : EL.Env → SO :=
 (sSeq (sIf (tOrB (tNotB (tTru (eIsi "tuple" (eName 1)))) (tOrB (tBl (eBin eqD (eName 1) (eTup aNil))) (tBl (eBin eqD (eNew (nCall m__law_roll (aCons (eName 0) (aCons (eK (.int 7)) aNil)))) (eK (.int 0))))))
 (sSeq (sSet 2 (eLst (aCons (eNew (nCall (m__law_odd 3) (aCons (eName 0) (aCons (eK (.int 1)) aNil)))) (aCons (eNew (nCall (m__law_odd 3) (aCons (eName 0) (aCons (eK (.int 1)) aNil)))) aNil))))
 (sSeq (sIf (tTru (eIsi "int" (eName 1)))
 (sSet 2 (eBin addD (eName 2) (eLst (aCons (eBin addD (eName 1) (eK (.int 1))) (aCons (eBin subD (eName 1) (eK (.int 1))) (aCons (eBin addD (eName 1) (eK (.int 1))) (aCons (eBin subD (eName 1) (eK (.int 1))) (aCons (eNot (eName 1)) (aCons (eCallV strD (aCons (eName 1) aNil)) aNil)))))))))
 SO.next)
 (sRet (eNew (nCall m__law_some (aCons (eName 0) (aCons (eName 2) aNil)))))))
 SO.next)
 (sSeq (sPar 3 4 (nEv (eNew (nCall m__law_roll (aCons (eName 0) (aCons (eCallV lenD (aCons (eName 1) aNil)) aNil))))) (nEv (eNew (nCall m__law_roll (aCons (eName 0) (aCons (eK (.int 9)) aNil))))))
 (sSeq (sIf (tBl (eBin eqD (eName 4) (eK (.int 0))))
 (sRet (eBin addD (eSl (eName 1) poNone (poSome (eName 3))) (eSl (eName 1) (poSome (eBin addD (eName 3) (eK (.int 1)))) poNone)))
 SO.next)
 (sSeq (sIf (tBl (eBin eqD (eName 4) (eK (.int 1))))
 (sRet (eBin addD (eSl (eName 1) poNone (poSome (eBin addD (eName 3) (eK (.int 1))))) (eSl (eName 1) (poSome (eName 3)) poNone)))
 SO.next)
 (sSeq (sIf (tBl (eBin eqD (eName 4) (eK (.int 2))))
 (sRet (eRev (eName 1)))
 SO.next)
 (sSeq (sIf (tBl (eBin eqD (eName 4) (eK (.int 3))))
 (sRet (eCallV listD (aCons (eName 1) aNil)))
 SO.next)
 (sRet (eBin addD (eBin addD (eSl (eName 1) poNone (poSome (eName 3))) (eTup (aCons (eNew (nCall r (aCons (eName 0) (aCons (eBin ixD (eName 1) (eName 3)) aNil)))) aNil))) (eSl (eName 1) (poSome (eBin addD (eName 3) (eK (.int 1)))) poNone)))))))))
def m__law_bent : Nat → List EL.Slot → FR
  | 0 => fun _ => .bad
  | k + 1 => mOf 2 5 (b__law_bent (m__law_bent k))
theorem ok__law_bent (A : Fx K mg) : ∀ k, FK P w K mg base (cvK K) (tbK K) "_law_bent" (5 + k) (m__law_bent k)
  | 0 => by
    obtain ⟨fd, F⟩ := A.d__law_bent
    exact fk_bad (ps := ["drum", "value"]) F A.m__law_bent (fun _ _ _ _ _ _ us hl => match us, hl with | [_, _], _ => rfl)
  | k + 1 => by
    have ih := ok__law_bent A k
    obtain ⟨fd, F⟩ := A.d__law_bent
    exact fk_of F A.m__law_bent sc__law_bent (fun _ _ _ _ _ _ us hl => match us, hl with | [_, _], _ => rfl) fun cdv Ar outer s H E O vs as hr =>
     have tk := L2N.takes_of (X := cxOf (L2N.CX P w) P w K mg base ["drum", "value", "near_v", "at", "way"] "_law_bent" (defScope (top 42)) (He.ga K "_law_bent") cdv Ar outer s H E) rfl rfl rfl rfl
     (bv_cons (sv_if (Wv.tv (wv_or (tv_not (tv_truth (ev_isi (T := "tuple") (ev_name 1) rfl A.b_isinstance rfl A.b_tuple (by decide +kernel)))) (wv_or (tv_eq hr (ev_name 1) (ev_tup av_nil)) (wv_or1 (tv_eq hr (ev_new (nv_call (ok__law_roll A) (Nat.le_trans (m := 5) (by decide) (Nat.le_add_right _ _)) hr rfl tk (av_cons (ev_name 0) (av_cons ev_int av_nil)))) ev_int)))))
 (bv_cons (sv_set 2 (ev_lst (av_cons (ev_new (nv_call (ok__law_odd A 3) (Nat.le_trans (m := 5) (by decide) (Nat.le_add_right _ _)) hr rfl tk (av_cons (ev_name 0) (av_cons ev_int av_nil)))) (av_cons (ev_new (nv_call (ok__law_odd A 3) (Nat.le_trans (m := 5) (by decide) (Nat.le_add_right _ _)) hr rfl tk (av_cons (ev_name 0) (av_cons ev_int av_nil)))) av_nil))) sc__law_bent.nd)
 (bv_cons (sv_if (tv_truth (ev_isi (T := "int") (ev_name 1) rfl A.b_isinstance rfl A.b_int (by decide +kernel)))
 (bv_one (sv_set 2 (ev_add (ev_name 2) (ev_lst (av_cons (ev_add (ev_name 1) ev_int) (av_cons (ev_sub (ev_name 1) ev_int) (av_cons (ev_add (ev_name 1) ev_int) (av_cons (ev_sub (ev_name 1) ev_int) (av_cons (ev_not (ev_name 1)) (av_cons (ev_cstr rfl A.b_str (av_cons (ev_name 1) av_nil)) av_nil)))))))) sc__law_bent.nd))
 bv_nil)
 (bv_one (sv_ret (ev_new (nv_call (ok__law_some A) (Nat.le_trans (m := 5) (by decide) (Nat.le_add_right _ _)) hr rfl tk (av_cons (ev_name 0) (av_cons (ev_name 2) av_nil))))))))
 bv_nil)
 (bv_cons (sv_par 3 4 (nv_ev (ev_new (nv_call (ok__law_roll A) (Nat.le_trans (m := 5) (by decide) (Nat.le_add_right _ _)) hr rfl tk (av_cons (ev_name 0) (av_cons (ev_len rfl A.b_len (av_cons (ev_name 1) av_nil)) av_nil))))) (nv_ev (ev_new (nv_call (ok__law_roll A) (Nat.le_trans (m := 5) (by decide) (Nat.le_add_right _ _)) hr rfl tk (av_cons (ev_name 0) (av_cons ev_int av_nil))))) sc__law_bent.nd)
 (bv_cons (sv_if (tv_eq hr (ev_name 4) ev_int)
 (bv_one (sv_ret (ev_add (ev_slice (ev_name 1) pov_none (pov_some (ev_name 3))) (ev_slice (ev_name 1) (pov_some (ev_add (ev_name 3) ev_int)) pov_none))))
 bv_nil)
 (bv_cons (sv_if (tv_eq hr (ev_name 4) ev_int)
 (bv_one (sv_ret (ev_add (ev_slice (ev_name 1) pov_none (pov_some (ev_add (ev_name 3) ev_int))) (ev_slice (ev_name 1) (pov_some (ev_name 3)) pov_none))))
 bv_nil)
 (bv_cons (sv_if (tv_eq hr (ev_name 4) ev_int)
 (bv_one (sv_ret (ev_rev (ev_name 1))))
 bv_nil)
 (bv_cons (sv_if (tv_eq hr (ev_name 4) ev_int)
 (bv_one (sv_ret (ev_clist rfl A.b_list (av_cons (ev_name 1) av_nil))))
 bv_nil)
 (bv_one (sv_ret (ev_add (ev_add (ev_slice (ev_name 1) pov_none (pov_some (ev_name 3))) (ev_tup (av_cons (ev_new (nv_call ih (Nat.le_refl _) hr rfl tk (av_cons (ev_name 0) (av_cons (ev_ix (ev_name 1) (ev_name 3)) av_nil)))) av_nil))) (ev_slice (ev_name 1) (pov_some (ev_add (ev_name 3) ev_int)) pov_none))))))))))
abbrev N__law_names : List Str := ["e", "some", "labels", "label", "good"]
theorem sc__law_names : FnScope ["e", "some", "labels", "label", "good"] ["e"] (defScope (top 43)) := ⟨rfl, rfl, rfl, by decide +kernel, rfl, by decide +kernel, by decide +kernel⟩
def b__law_names (c : String) (a : Addr) : EL.Env → SO :=
 (sSeq (sSet 1 (eLst (aCons (eIsE 0 a (decide (c = "InvalidWeb"))) (aCons (eIsE 0 a (decide (c = "InvalidTie"))) (aCons (eIsE 0 a (decide (c = "InvalidTies"))) aNil)))))
 (sSeq (sSet 1 (eBin addD (eName 1) (eLst (aCons (eIsE 0 a (decide (c = "InvalidRound"))) (aCons (eIsE 0 a (decide (c = "InvalidPlace"))) (aCons (eIsE 0 a (decide (c = "InvalidLane"))) aNil))))))
 (sSeq (sSet 1 (eBin addD (eName 1) (eLst (aCons (eIsE 0 a (decide (c = "InvalidTurn"))) (aCons (eIsE 0 a (decide (c = "InvalidHues"))) (aCons (eIsE 0 a (decide (c = "InvalidIndex"))) aNil))))))
 (sSeq (sSet 1 (eBin addD (eName 1) (eLst (aCons (eIsE 0 a (decide (c = "InvalidNumber"))) (aCons (eIsE 0 a (decide (c = "InvalidText"))) (aCons (eIsE 0 a (decide (c = "Unlike"))) aNil))))))
 (sSeq (sSet 1 (eBin addD (eName 1) (eLst (aCons (eIsE 0 a (decide (c = "NoRound"))) (aCons (eIsE 0 a (decide (c = "NoTurn"))) (aCons (eIsE 0 a (decide (c = "NothingToUndo"))) aNil))))))
 (sSeq (sSet 1 (eBin addD (eName 1) (eLst (aCons (eIsE 0 a (decide (c = "TooMany"))) (aCons (eIsE 0 a true) aNil)))))
 (sSeq (sSet 2 (eK (.str "web tie ties round place lane turn hues index number text unlike none stuck undo many value")))
 (sRet (eStr1 joinD (eK (.str " ")) (eFresh (eCompL (iZipH (aCons (eStr1 splitD (eName 2) (eK (.str " "))) (aCons (eName 1) aNil))) [3, 4] (gTupD [3, 4]) (tTru (eName 4)) (eName 3))))))))))))
def nmL : List (String × Str) := [("InvalidWeb", "web value"), ("InvalidTie", "tie value"), ("InvalidTies", "ties value"), ("InvalidRound", "round value"), ("InvalidPlace", "place value"), ("InvalidLane", "lane value"), ("InvalidTurn", "turn value"), ("InvalidHues", "hues value"), ("InvalidIndex", "index value"), ("InvalidNumber", "number value"), ("InvalidText", "text value"), ("Unlike", "unlike value"), ("NoRound", "none value"), ("NoTurn", "stuck value"), ("NothingToUndo", "undo value")]
def nmOf (c : String) : Option Str := nmL.lookup c
theorem nmOf_mem {c : String} {z : Str} (h : nmOf c = some z) : c ∈ plainC := by
  have h2 := lookup_fst h
  exact h2
theorem seq_next {f g : EL.Env → SO} {ρ ρ1 : EL.Env} (h : f ρ = .next ρ1) : sSeq f g ρ = g ρ1 := by
  show (f ρ).then g = _
  rw [h]; rfl
theorem isE_at (a : Addr) (b : Bool) (ρ : EL.Env) : eIsE 0 a b (.val (.ref a) :: ρ) = .ok (.val (.bl b)) (.val (.ref a) :: ρ) := by simp [eIsE]
theorem lab3 (a : Addr) (b1 b2 b3 : Bool) (x : EL.Slot) (r : EL.Env) : sSet 1 (eLst (aCons (eIsE 0 a b1) (aCons (eIsE 0 a b2) (aCons (eIsE 0 a b3) aNil)))) (.val (.ref a) :: x :: r) = .next (.val (.ref a) :: .val (.lst [.bl b1, .bl b2, .bl b3]) :: r) := by
  simp only [sSet, eLst, aCons, aNil, isE_at, Out.bind_ok]
  rfl
theorem lab3p (a : Addr) (ds : List D) (hd : ds.length ≤ 500) (b1 b2 b3 : Bool) (r : EL.Env) : sSet 1 (eBin addD (eName 1) (eLst (aCons (eIsE 0 a b1) (aCons (eIsE 0 a b2) (aCons (eIsE 0 a b3) aNil))))) (.val (.ref a) :: .val (.lst ds) :: r) = .next (.val (.ref a) :: .val (.lst (ds ++ [.bl b1, .bl b2, .bl b3])) :: r) := by
  have e1 : eName 1 (.val (.ref a) :: .val (.lst ds) :: r) = .ok (.val (.lst ds)) (.val (.ref a) :: .val (.lst ds) :: r) := rfl
  have e2 : ∀ es : List D, es.length ≤ 3 → addD (.lst ds) (.lst es) = some (.lst (ds ++ es)) := fun es h => by
    show (if _ then _ else _) = _
    exact if_pos (by omega)
  have e3 : ∀ rs : List Rv, ∀ es, storeL rs = some es → Out.of ((storeL rs).map fun ds => Rv.val (.lst ds)) (.val (.ref a) :: .val (.lst ds) :: r) = .ok (.val (.lst es)) (.val (.ref a) :: .val (.lst ds) :: r) := fun rs es h => by rw [h]; rfl
  simp only [sSet, eBin, e1, eLst, aCons, aNil, isE_at, Out.bind_ok]
  rw [e3 _ _ rfl, Out.bind_ok, ap2_val, e2 _ (by simp)]
  rfl
theorem lab2p (a : Addr) (ds : List D) (hd : ds.length ≤ 500) (b1 b2 : Bool) (r : EL.Env) : sSet 1 (eBin addD (eName 1) (eLst (aCons (eIsE 0 a b1) (aCons (eIsE 0 a b2) aNil)))) (.val (.ref a) :: .val (.lst ds) :: r) = .next (.val (.ref a) :: .val (.lst (ds ++ [.bl b1, .bl b2])) :: r) := by
  have e1 : eName 1 (.val (.ref a) :: .val (.lst ds) :: r) = .ok (.val (.lst ds)) (.val (.ref a) :: .val (.lst ds) :: r) := rfl
  have e2 : ∀ es : List D, es.length ≤ 3 → addD (.lst ds) (.lst es) = some (.lst (ds ++ es)) := fun es h => by
    show (if _ then _ else _) = _
    exact if_pos (by omega)
  have e3 : ∀ rs : List Rv, ∀ es, storeL rs = some es → Out.of ((storeL rs).map fun ds => Rv.val (.lst ds)) (.val (.ref a) :: .val (.lst ds) :: r) = .ok (.val (.lst es)) (.val (.ref a) :: .val (.lst ds) :: r) := fun rs es h => by rw [h]; rfl
  simp only [sSet, eBin, e1, eLst, aCons, aNil, isE_at, Out.bind_ok]
  rw [e3 _ _ rfl, Out.bind_ok, ap2_val, e2 _ (by simp)]
  rfl
theorem names_val (c : String) (z : Str) (h : nmOf c = some z) (a : Addr) : mOf 1 5 (b__law_names c a) [.val (.ref a)] = .ok (.str z) [.val (.ref a)] := by
  have hc := nmOf_mem h
  have ez : z = (nmOf c).getD "" := by rw [h]; rfl
  rw [ez]
  clear ez h
  show frOf _ (b__law_names c a [.val (.ref a), .un, .un, .un, .un]) = _
  unfold b__law_names
  rw [seq_next (lab3 a _ _ _ _ _), seq_next (lab3p a _ (by simp) _ _ _ _), seq_next (lab3p a _ (by simp) _ _ _ _), seq_next (lab3p a _ (by simp) _ _ _ _), seq_next (lab3p a _ (by simp) _ _ _ _), seq_next (lab2p a _ (by simp) _ _ _)]
  simp only [plainC, List.mem_cons, List.not_mem_nil, or_false] at hc
  rcases hc with rfl | rfl | rfl | rfl | rfl | rfl | rfl | rfl | rfl | rfl | rfl | rfl | rfl | rfl | rfl <;> kernel_rfl
theorem nms_ok (A : Fx K mg) (B : Nx K) : NmsK P w K mg base (cvK K) (tbK K) "_law_names" "e" nmOf := by
  obtain ⟨fd, F⟩ := A.d__law_names
  refine ⟨_, fd, A.m__law_names, F.kp, F.bindsN (fun _ _ _ _ _ _ us hl => match us, hl with | [_], _ => rfl), fun c z h Ar outer s H args Q p hr hot pin e0 zn hT hb q => run_hot (k := 0) (CX := C8.CX0) (E := C8.E0) F sc__law_names hr hot pin e0 hb (.cons rfl .nil : Vals [V.ref p.1] [.ref p.1]) rfl fun cdv hr => ?_⟩
  have hc := nmOf_mem h
  have hC : ExcC K (gaS K c) := B.cls.ex c hc
  have hz : Zc (.ref (gaS K c)) none p.2 := zn.zc
  have hf : ∃ vs, p.2.data = .fields vs := let ⟨_, vs, e, _⟩ := hot; ⟨vs, e⟩
  have hotc : L2H.HotC (L2H.cxH C8.CX0 P w K mg base N__law_names "_law_names" (defScope (top 43)) (He.ga K "_law_names") cdv Ar outer s H C8.E0 p) := ⟨p, hot, List.mem_singleton.mpr rfl⟩
  refine ⟨tS (Gf K (cvK K) (tbK K) AS.nil H [.ref p.1] [.val (.ref p.1)]) (fun cls d _ H => C8.E0 cls d H) (b__law_names c p.1), ?_, ?_⟩
  · show Bv _ _ _ _ _
    exact (bv_cons (sv_set 1 (ev_lst (av_cons (ev_isEo (k := 0) hC hz hf (List.mem_singleton.mpr rfl) (B.cls.kit c hc "InvalidWeb" (by decide)) rfl (Or.inl rfl) rfl A.b_isinstance rfl A.g_InvalidWeb) (av_cons (ev_isEo (k := 0) hC hz hf (List.mem_singleton.mpr rfl) (B.cls.kit c hc "InvalidTie" (by decide)) rfl (Or.inl rfl) rfl A.b_isinstance rfl A.g_InvalidTie) (av_cons (ev_isEo (k := 0) hC hz hf (List.mem_singleton.mpr rfl) (B.cls.kit c hc "InvalidTies" (by decide)) rfl (Or.inl rfl) rfl A.b_isinstance rfl A.g_InvalidTies) av_nil)))) sc__law_names.nd)
 (bv_cons (sv_set 1 (ev_add (ev_name 1) (ev_lst (av_cons (ev_isEo (k := 0) hC hz hf (List.mem_singleton.mpr rfl) (B.cls.kit c hc "InvalidRound" (by decide)) rfl (Or.inl rfl) rfl A.b_isinstance rfl A.g_InvalidRound) (av_cons (ev_isEo (k := 0) hC hz hf (List.mem_singleton.mpr rfl) (B.cls.kit c hc "InvalidPlace" (by decide)) rfl (Or.inl rfl) rfl A.b_isinstance rfl A.g_InvalidPlace) (av_cons (ev_isEo (k := 0) hC hz hf (List.mem_singleton.mpr rfl) (B.cls.kit c hc "InvalidLane" (by decide)) rfl (Or.inl rfl) rfl A.b_isinstance rfl A.g_InvalidLane) av_nil))))) sc__law_names.nd)
 (bv_cons (sv_set 1 (ev_add (ev_name 1) (ev_lst (av_cons (ev_isEo (k := 0) hC hz hf (List.mem_singleton.mpr rfl) (B.cls.kit c hc "InvalidTurn" (by decide)) rfl (Or.inl rfl) rfl A.b_isinstance rfl A.g_InvalidTurn) (av_cons (ev_isEo (k := 0) hC hz hf (List.mem_singleton.mpr rfl) (B.cls.kit c hc "InvalidHues" (by decide)) rfl (Or.inl rfl) rfl A.b_isinstance rfl A.g_InvalidHues) (av_cons (ev_isEo (k := 0) hC hz hf (List.mem_singleton.mpr rfl) (B.cls.kit c hc "InvalidIndex" (by decide)) rfl (Or.inl rfl) rfl A.b_isinstance rfl A.g_InvalidIndex) av_nil))))) sc__law_names.nd)
 (bv_cons (sv_set 1 (ev_add (ev_name 1) (ev_lst (av_cons (ev_isEo (k := 0) hC hz hf (List.mem_singleton.mpr rfl) (B.cls.kit c hc "InvalidNumber" (by decide)) rfl (Or.inl rfl) rfl A.b_isinstance rfl A.g_InvalidNumber) (av_cons (ev_isEo (k := 0) hC hz hf (List.mem_singleton.mpr rfl) (B.cls.kit c hc "InvalidText" (by decide)) rfl (Or.inl rfl) rfl A.b_isinstance rfl A.g_InvalidText) (av_cons (ev_isEo (k := 0) hC hz hf (List.mem_singleton.mpr rfl) (B.cls.kit c hc "Unlike" (by decide)) rfl (Or.inl rfl) rfl A.b_isinstance rfl A.g_Unlike) av_nil))))) sc__law_names.nd)
 (bv_cons (sv_set 1 (ev_add (ev_name 1) (ev_lst (av_cons (ev_isEo (k := 0) hC hz hf (List.mem_singleton.mpr rfl) (B.cls.kit c hc "NoRound" (by decide)) rfl (Or.inl rfl) rfl A.b_isinstance rfl A.g_NoRound) (av_cons (ev_isEo (k := 0) hC hz hf (List.mem_singleton.mpr rfl) (B.cls.kit c hc "NoTurn" (by decide)) rfl (Or.inl rfl) rfl A.b_isinstance rfl A.g_NoTurn) (av_cons (ev_isEo (k := 0) hC hz hf (List.mem_singleton.mpr rfl) (B.cls.kit c hc "NothingToUndo" (by decide)) rfl (Or.inl rfl) rfl A.b_isinstance rfl A.g_NothingToUndo) av_nil))))) sc__law_names.nd)
 (bv_cons (sv_set 1 (ev_add (ev_name 1) (ev_lst (av_cons (ev_isEo (k := 0) hC hz hf (List.mem_singleton.mpr rfl) (B.cls.kit c hc "TooMany" (by decide)) rfl (Or.inl rfl) rfl A.b_isinstance rfl A.g_TooMany) (av_cons (ev_isEb (k := 0) (T := "ValueError") hC hz hf (List.mem_singleton.mpr rfl) (B.cls.kitV c hc) rfl (Or.inl rfl) rfl A.b_isinstance rfl A.b_ValueError (by decide +kernel)) av_nil)))) sc__law_names.nd)
 (bv_cons (sv_set 2 ev_str sc__law_names.nd)
 (bv_one (sv_ret (ev_join ev_str (ev_fresh (fv_compH (own := [("label", 3), ("good", 4)]) hotc sc__law_names.nd (blkOk_by (by show blkC N__law_names (defScope (top 43)) _ _ = true; decide +kernel)) (ivh_zip (av_cons (ev_split (ev_name 2) ev_str) (av_cons (ev_name 1) av_nil)) rfl A.b_zip) (fun _ _ _ _ _ ho => gv_tupH ho (gsv_cons 3 (gsv_cons 4 gsv_nil sc__law_names.nd) sc__law_names.nd)) (fun _ _ _ _ _ => (tsv_one (tv_truth (ev_name 4)))) (fun _ _ _ _ _ => (ev_name 3))))))))))))))
  · refine fr_end (N := N__law_names) (n := 1) rfl (by decide) (fun _ z => z.elim) hT (.val (.ref _) .nil) (fun i j b io io2 o o2 h1 _ _ _ => by cases i <;> simp at h1) ?_
    show ansG _ _ _ _ _ _ _ (mOf 1 5 (b__law_names c p.1) [.val (.ref p.1)]) Q _
    rw [names_val c z h]
    intro v H2 e2 t2 _ r2
    cases r2
    exact q H2 (e2.mono fun b z => z.1.elim) t2
theorem sc__law_error : FnScope ["call", "e"] ["call"] (defScope (top 44)) := ⟨rfl, rfl, rfl, by decide +kernel, rfl, by decide +kernel, by decide +kernel⟩
abbrev N__law_is_web : List Str := ["value", "every", "tie_so", "place"]
theorem sc__law_is_web : FnScope ["value", "every", "tie_so", "place"] ["value"] (defScope (top 45)) := ⟨rfl, rfl, rfl, by decide +kernel, rfl, by decide +kernel, by decide +kernel⟩
def b__law_is_web : EL.Env → SO :=
 (sSeq (sIf (tOrB (tNotB (tTru (eIsi "tuple" (eName 0)))) (tOrB (tBl (eBin neD (eCallV lenD (aCons (eName 0) aNil)) (eK (.int 2)))) (tOrB (tNotB (tTru (eIsi "tuple" (eBin ixD (eName 0) (eK (.int 1)))))) (tBl (eBin gtD (eCallV lenD (aCons (eBin ixD (eName 0) (eK (.int 1))) aNil)) (eK (.int 15)))))))
 (sRet (eK (.bl false)))
 SO.next)
 (sSeq (sIf (tOrB (tNotB (tTru (eIsi "int" (eBin ixD (eName 0) (eK (.int 0)))))) (tOrB (tTru (eIsi "bool" (eBin ixD (eName 0) (eK (.int 0))))) (tBl (eBin ninD (eBin ixD (eName 0) (eK (.int 0))) (eLst (aCons (eK (.int 4)) (aCons (eK (.int 6)) (aCons (eK (.int 8)) (aCons (eK (.int 10)) aNil)))))))))
 (sRet (eK (.bl false)))
 SO.next)
 (sSeq (sSet 1 (eNew (nCall m__law_pairs (aCons (eBin ixD (eName 0) (eK (.int 0))) aNil))))
 (sSeq (sFor (iSeq (eBin ixD (eName 0) (eK (.int 1)))) (gSet 2)
 (sSeq (sIf (tOrB (tNotB (tTru (eIsi "tuple" (eName 2)))) (tOrB (tBl (eBin neD (eCallV lenD (aCons (eName 2) aNil)) (eK (.int 2)))) (tBl (eBin ninD (eName 2) (eName 1)))))
 (sRet (eK (.bl false)))
 SO.next)
 (sIf (tOrB (tTru (eIsi "bool" (eBin ixD (eName 2) (eK (.int 0))))) (tTru (eIsi "bool" (eBin ixD (eName 2) (eK (.int 1))))))
 (sRet (eK (.bl false)))
 SO.next)))
 (sSeq (sIf (tBl (eBin neD (eCallV listD (aCons (eBin ixD (eName 0) (eK (.int 1))) aNil)) (eSortedSet (eBin ixD (eName 0) (eK (.int 1))))))
 (sRet (eK (.bl false)))
 SO.next)
 (sRet (eBin eqD (eFresh (eCompL (iRng rng1 (aCons (eBin ixD (eName 0) (eK (.int 0))) aNil)) [3] (gSet 3) (tBl (eBin eqD (eBin modD (eCallV lenD (aCons (eNew (nCall m__law_near (aCons (eName 0) (aCons (eName 3) aNil)))) aNil)) (eK (.int 2))) (eK (.int 0)))) (eName 3))) (eLst aNil))))))))
def m__law_is_web : List EL.Slot → FR := mOf 1 4 b__law_is_web
theorem ok__law_is_web (A : Fx K mg) : FK P w K mg base (cvK K) (tbK K) "_law_is_web" 2 m__law_is_web := by
  obtain ⟨fd, F⟩ := A.d__law_is_web
  exact fk_of F A.m__law_is_web sc__law_is_web (fun _ _ _ _ _ _ us hl => match us, hl with | [_], _ => rfl) fun cdv Ar outer s H E O vs as hr =>
   have tk := L2N.takes_of (X := cxOf (L2N.CX P w) P w K mg base ["value", "every", "tie_so", "place"] "_law_is_web" (defScope (top 45)) (He.ga K "_law_is_web") cdv Ar outer s H E) rfl rfl rfl rfl
   (bv_cons (sv_if (Wv.tv (wv_or (tv_not (tv_truth (ev_isi (T := "tuple") (ev_name 0) rfl A.b_isinstance rfl A.b_tuple (by decide +kernel)))) (wv_or (tv_ne hr (ev_len rfl A.b_len (av_cons (ev_name 0) av_nil)) ev_int) (wv_or (tv_not (tv_truth (ev_isi (T := "tuple") (ev_ix (ev_name 0) ev_int) rfl A.b_isinstance rfl A.b_tuple (by decide +kernel)))) (wv_or1 (tv_gt (ev_len rfl A.b_len (av_cons (ev_ix (ev_name 0) ev_int) av_nil)) ev_int))))))
 (bv_one (sv_ret ev_bl))
 bv_nil)
 (bv_cons (sv_if (Wv.tv (wv_or (tv_not (tv_truth (ev_isi (T := "int") (ev_ix (ev_name 0) ev_int) rfl A.b_isinstance rfl A.b_int (by decide +kernel)))) (wv_or (tv_truth (ev_isi (T := "bool") (ev_ix (ev_name 0) ev_int) rfl A.b_isinstance rfl A.b_bool (by decide +kernel))) (wv_or1 (tv_nin hr (ev_ix (ev_name 0) ev_int) (ev_lst (av_cons ev_int (av_cons ev_int (av_cons ev_int (av_cons ev_int av_nil))))))))))
 (bv_one (sv_ret ev_bl))
 bv_nil)
 (bv_cons (sv_set 1 (ev_new (nv_call (ok__law_pairs A) (by decide) hr rfl tk (av_cons (ev_ix (ev_name 0) ev_int) av_nil))) sc__law_is_web.nd)
 (bv_cons (sv_for (L2.passes_of rfl) (iv_seq (ev_ix (ev_name 0) ev_int)) (gv_name 2 sc__law_is_web.nd)
 (bv_cons (sv_if (Wv.tv (wv_or (tv_not (tv_truth (ev_isi (T := "tuple") (ev_name 2) rfl A.b_isinstance rfl A.b_tuple (by decide +kernel)))) (wv_or (tv_ne hr (ev_len rfl A.b_len (av_cons (ev_name 2) av_nil)) ev_int) (wv_or1 (tv_nin hr (ev_name 2) (ev_name 1))))))
 (bv_one (sv_ret ev_bl))
 bv_nil)
 (bv_one (sv_if (Wv.tv (wv_or (tv_truth (ev_isi (T := "bool") (ev_ix (ev_name 2) ev_int) rfl A.b_isinstance rfl A.b_bool (by decide +kernel))) (wv_or1 (tv_truth (ev_isi (T := "bool") (ev_ix (ev_name 2) ev_int) rfl A.b_isinstance rfl A.b_bool (by decide +kernel))))))
 (bv_one (sv_ret ev_bl))
 bv_nil))))
 (bv_cons (sv_if (tv_ne hr (ev_clist rfl A.b_list (av_cons (ev_ix (ev_name 0) ev_int) av_nil)) (ev_sortedSet rfl A.b_sorted rfl A.b_set hr (ev_ix (ev_name 0) ev_int)))
 (bv_one (sv_ret ev_bl))
 bv_nil)
 (bv_one (sv_ret (ev_eq hr (ev_fresh (fv_comp (own := [("place", 3)]) sc__law_is_web.nd (blkOk_by (by show blkC N__law_is_web (defScope (top 45)) _ _ = true; decide +kernel)) (iv_rng1 (av_cons (ev_ix (ev_name 0) ev_int) av_nil) rfl A.b_range) (fun _ _ _ _ _ => (gv_name 3 sc__law_is_web.nd)) (fun _ _ _ _ _ => (tsv_one (tv_eq hr (ev_mod (ev_len rfl A.b_len (av_cons (ev_new (nv_call (ok__law_near A) (by decide) hr rfl takes0N (av_cons (ev_name 0) (av_cons (ev_name 3) av_nil)))) av_nil)) ev_int) ev_int))) (fun _ _ _ _ _ => (ev_name 3)))) (ev_lst av_nil)))))))))
abbrev N__law_judged : List Str := ["value", "good", "found"]
theorem sc__law_judged : FnScope ["value", "good", "found"] ["value"] (defScope (top 46)) := ⟨rfl, rfl, rfl, by decide +kernel, rfl, by decide +kernel, by decide +kernel⟩
def b__law_judged : EL.Env → SO :=
 (sSeq (sSet 1 (eNew (nCall m__law_is_web (aCons (eName 0) aNil))))
 (sSeq (sIf (tOrB (tBl (eBin neD (eNew (nCall m_is_web (aCons (eName 0) aNil))) (eName 1))) (tNotB (tTru (eIsi "bool" (eNew (nCall m_is_web (aCons (eName 0) aNil)))))))
 (sRet (eK (.bl false)))
 SO.next)
 (sSeq (sNew 2 (nFv (fLst (aCons (eErr nmOf (eNew (nCall m_is_of_threes (aCons (eName 0) aNil)))) aNil))))
 (sSeq (sExpr (eMeth appO 2 (aCons (eErr nmOf (eNew (nCall m_tied (aCons (eName 0) (aCons (eK (.int 0)) aNil))))) aNil)))
 (sRet (eBin eqD (eName 2) (eBin mulD (eLst (aCons (eIf (tTru (eName 1)) (eK (.str "")) (eK (.str "web value"))) aNil)) (eK (.int 2)))))))))
def m__law_judged : List EL.Slot → FR := mOf 1 3 b__law_judged
theorem ok__law_judged (A : Fx K mg) (B : Nx K) (Tb : Tx K mg base) : FK P w K mg base (cvK K) (tbK K) "_law_judged" 8 m__law_judged := by
  obtain ⟨fd, F⟩ := A.d__law_judged
  obtain ⟨fde, FE⟩ := A.d__law_error
  have bE : L2.Binds K fde ["call"] [] := FE.bindsN (fun _ _ _ _ _ _ us hl => match us, hl with | [_], _ => rfl)
  have exm_ok_ : ∀ c z, nmOf c = some z → PySem.W.exmOne K (cvK K c) (.ref (He.ga K "RoundError")) = some true := fun c z h => B.cls.exm c (nmOf_mem h)
  exact fk_ofC F A.m__law_judged sc__law_judged (fun _ _ _ _ _ _ us hl => match us, hl with | [_], _ => rfl) fun Ar outer s H E O vs as hr =>
   have tk := L2N.takes_of (X := cxOf (L2N.CX P w) P w K mg base ["value", "good", "found"] "_law_judged" (defScope (top 46)) (He.ga K "_law_judged") (.ref (He.codeOf K ("_law_judged", none))) Ar outer s H E) rfl rfl rfl rfl
   (bv_cons (sv_set 1 (ev_new (nv_call (ok__law_is_web A) (by decide) hr rfl tk (av_cons (ev_name 0) av_nil))) sc__law_judged.nd)
 (bv_cons (sv_if (Wv.tv (wv_or (tv_ne hr (ev_new (nv_call (ok_is_web A) (by decide) hr rfl tk (av_cons (ev_name 0) av_nil))) (ev_name 1)) (wv_or1 (tv_not (tv_truth (ev_isi (T := "bool") (ev_new (nv_call (ok_is_web A) (by decide) hr rfl tk (av_cons (ev_name 0) av_nil))) rfl A.b_isinstance rfl A.b_bool (by decide +kernel)))))))
 (bv_one (sv_ret ev_bl))
 bv_nil)
 (bv_cons (sv_new 2 (nv_fv (fv_lst (av_cons (ev_err (k := 5) (nm := nmOf) rfl A.m__law_error FE bE sc__law_error (Or.inl rfl) (fun cdg => gives_error (nms_ok A B) (by decide) A.g_RoundError rfl rfl rfl) Tb.t__law_judged ((List.mem_cons_self ..) : (tabK K "_law_judged", _) ∈ tbK K) (uniq_tab (tb_nodup B) (List.mem_cons_self ..)) exm_ok_ (hr.mono (by decide)) (lamS_by (by show lamSB (defScope (top 46)) _ = true; decide +kernel)) (fun _ _ _ _ _ _ _ hr => (ev_new (nv_call (ok_is_of_threes A) (by decide) hr rfl lamE_takes (av_cons (ev_name 0) av_nil))))) av_nil))) sc__law_judged.nd)
 (bv_cons (sv_expr (ev_meth PySem.F.slot_list_append PySem.F.type_list_append mt_append me_append rfl (by first | exact Or.inl rfl | exact Or.inr (Or.inl rfl) | exact Or.inr (Or.inr rfl)) (av_cons (ev_err (k := 5) (nm := nmOf) rfl A.m__law_error FE bE sc__law_error (Or.inl rfl) (fun cdg => gives_error (nms_ok A B) (by decide) A.g_RoundError rfl rfl rfl) Tb.t__law_judged ((List.mem_cons_self ..) : (tabK K "_law_judged", _) ∈ tbK K) (uniq_tab (tb_nodup B) (List.mem_cons_self ..)) exm_ok_ (hr.mono (by decide)) (lamS_by (by show lamSB (defScope (top 46)) _ = true; decide +kernel)) (fun _ _ _ _ _ _ _ hr => (ev_new (nv_call (ok_tied A) (by decide) hr rfl lamE_takes (av_cons (ev_name 0) (av_cons ev_int av_nil)))))) av_nil)))
 (bv_one (sv_ret (ev_eq hr (ev_name 2) (ev_mul (ev_lst (av_cons (ev_if (tv_truth (ev_name 1)) ev_str ev_str) av_nil)) ev_int))))))))
abbrev N_law : List Str := ["script", "cell", "drum", "turn", "one", "some", "place", "good", "row", "bent", "step", "odd", "value", "all_so", "prism", "star", "many", "tie_so"]
theorem sc_law : FnScope ["script", "cell", "drum", "turn", "one", "some", "place", "good", "row", "bent", "step", "odd", "value", "all_so", "prism", "star", "many", "tie_so"] ["script"] (defScope (top 47)) := ⟨rfl, rfl, rfl, by decide +kernel, rfl, by decide +kernel, by decide +kernel⟩
def b_law : EL.Env → SO :=
 (sSeq (sFor (iSeq (eSl (eBin addD (eLst (aCons (eK (.int 0)) aNil)) (eName 0)) poNone (poSome (eK (.int 8))))) (gSet 1)
 (sSeq (sNew 2 (nCall m__law_drum (aCons (eName 1) (aCons (eK (.int 3)) aNil))))
 (sSeq (sFor (iRng rng1 (aCons (eK (.int 3)) aNil)) (gSet 3)
 (sSeq (sSet 4 (eNew (nCall m__law_web (aCons (eName 2) (aCons (eK (.int 10)) aNil)))))
 (sSeq (sIf (tOrB (tNotB (tTru (eNew (nCall m__law_judged (aCons (eName 4) aNil))))) (tNotB (tTru (eNew (nCall m__law_is_web (aCons (eName 4) aNil))))))
 (sRet (eK (.bl false)))
 SO.next)
 (sSeq (sOwn 5 (eCompL (iRng rng1 (aCons (eBin ixD (eName 4) (eK (.int 0))) aNil)) [6] (gSet 6) tYesB (eNew (nCall m__law_near (aCons (eName 4) (aCons (eName 6) aNil))))))
 (sSeq (sIf (tBl (eBin neD (eFresh (eCompL (iRng rng1 (aCons (eBin ixD (eName 4) (eK (.int 0))) aNil)) [6] (gSet 6) tYesB (eNew (nCall m_tied (aCons (eName 4) (aCons (eName 6) aNil)))))) (eName 5)))
 (sRet (eK (.bl false)))
 SO.next)
 (sSeq (sSet 7 (eBin eqD (eFresh (eCompL (iSeq (eName 5)) [8] (gSet 8) (tBl (eBin neD (eCallV lenD (aCons (eName 8) aNil)) (eK (.int 3)))) (eName 8))) (eLst aNil)))
 (sSeq (sIf (tOrB (tBl (eBin neD (eNew (nCall m_is_of_threes (aCons (eName 4) aNil))) (eName 7))) (tNotB (tTru (eIsi "bool" (eNew (nCall m_is_of_threes (aCons (eName 4) aNil)))))))
 (sRet (eK (.bl false)))
 SO.next)
 (sSeq (sSet 9 (eName 4))
 (sSeq (sFor (iRng rng1 (aCons (eK (.int 9)) aNil)) (gSet 10)
 (sSeq (sSet 9 (eNew (nCall (m__law_bent 16) (aCons (eName 2) (aCons (eIf (tBl (eBin eqD (eBin modD (eCallV intD (aCons (eName 10) aNil)) (eK (.int 3))) (eK (.int 0)))) (eName 4) (eName 9)) aNil)))))
 (sIf (tNotB (tTru (eNew (nCall m__law_judged (aCons (eName 9) aNil)))))
 (sRet (eK (.bl false)))
 SO.next)))
 (sFor (iSeq (eTup (aCons (eK .non) (aCons (eNeg (eK (.int 1))) (aCons (eBin ixD (eName 4) (eK (.int 0))) (aCons (eK (.bl true)) (aCons (eK (.str "0")) aNil))))))) (gSet 11)
 (sIf (tBl (eBin neD (eErr nmOf (eNew (nCall m_tied (aCons (eName 4) (aCons (eName 11) aNil))))) (eK (.str "place value"))))
 (sRet (eK (.bl false)))
 SO.next)))))))))))
 (sIf (tNotB (tTru (eNew (nCall m__law_judged (aCons (eNew (nCall (m__law_odd 3) (aCons (eName 2) (aCons (eK (.int 2)) aNil)))) aNil)))))
 (sRet (eK (.bl false)))
 SO.next))))
 (sSeq (sFor (iSeq (eNew (nCall m__law_written aNil))) (gSet 4)
 (sIf (tBl (eBin isnD (eNew (nCall m_is_web (aCons (eName 4) aNil))) (eK (.bl true))))
 (sRet (eK (.bl false)))
 SO.next))
 (sSeq (sNew 5 (nFv (fLst (aCons (eTup (aCons (eK (.int 4)) (aCons (eTup (aCons (eTup (aCons (eK (.int 0)) (aCons (eK (.int 1)) aNil))) (aCons (eTup (aCons (eK (.int 1)) (aCons (eK (.int 2)) aNil))) (aCons (eTup (aCons (eK (.int 2)) (aCons (eK (.int 3)) aNil))) aNil)))) aNil))) (aCons (eTup (aCons (eK (.int 4)) (aCons (eTup (aCons (eTup (aCons (eK (.int 1)) (aCons (eK (.int 0)) aNil))) (aCons (eTup (aCons (eK (.int 2)) (aCons (eK (.int 3)) aNil))) aNil))) aNil))) (aCons (eTup (aCons (eK (.int 5)) (aCons (eTup aNil) aNil))) (aCons (eTup (aCons (eK (.int 4)) (aCons (eTup aNil) aNil))) (aCons (eTup (aCons (eK (.int 2)) (aCons (eTup (aCons (eTup (aCons (eK (.int 0)) (aCons (eK (.int 1)) aNil))) aNil)) aNil))) (aCons (eTup (aCons (eK (.int 12)) (aCons (eTup aNil) aNil))) aNil)))))))))
 (sSeq (sExpr (eMeth appO 5 (aCons (eTup (aCons (eK (.int 4)) (aCons (eTup (aCons (eTup (aCons (eK (.int 2)) (aCons (eK (.int 3)) aNil))) (aCons (eTup (aCons (eK (.int 0)) (aCons (eK (.int 1)) aNil))) aNil))) aNil))) aNil)))
 (sSeq (sIf (tOrB (tBl (eBin neD (eFresh (eCompL (iSeq (eName 5)) [12] (gSet 12) tYesB (eNew (nCall m_is_web (aCons (eName 12) aNil))))) (eBin mulD (eLst (aCons (eK (.bl false)) aNil)) (eK (.int 7))))) (tBl (eBin isnD (eNew (nCall m_is_web (aCons (eTup (aCons (eK (.int 4)) (aCons (eTup (aCons (eTup (aCons (eK (.int 0)) (aCons (eK (.int 1)) aNil))) (aCons (eTup (aCons (eK (.int 2)) (aCons (eK (.int 3)) aNil))) aNil))) aNil))) aNil))) (eK (.bl true)))))
 (sRet (eK (.bl false)))
 SO.next)
 (sSeq (sPar3 13 14 15 (aCons (eBin ixD (eNew (nCall m__law_written aNil)) (eK (.int 0))) (aCons (eBin ixD (eNew (nCall m__law_written aNil)) (eK (.int 1))) (aCons (eBin ixD (eNew (nCall m__law_written aNil)) (eK (.int 3))) aNil))))
 (sSeq (sNew 5 (nFv (fLst (aCons (eNew (nCall m_is_of_threes (aCons (eName 13) aNil))) (aCons (eNew (nCall m_is_of_threes (aCons (eName 14) aNil))) (aCons (eNew (nCall m_is_of_threes (aCons (eName 15) aNil))) (aCons (eNew (nCall m_is_of_threes (aCons (eBin ixD (eNew (nCall m__law_written aNil)) (eK (.int 4))) aNil))) aNil)))))))
 (sSeq (sIf (tBl (eBin neD (eName 5) (eLst (aCons (eK (.bl true)) (aCons (eK (.bl true)) (aCons (eK (.bl false)) (aCons (eK (.bl false)) aNil)))))))
 (sRet (eK (.bl false)))
 SO.next)
 (sSeq (sSet 16 (eTup (aCons (eK (.int 8)) (aCons (eCallV tupleD (aCons (eFresh (eCompL (iSeq (eNew (nCall m__law_pairs (aCons (eK (.int 8)) aNil)))) [17] (gSet 17) (tBl (eBin inD (eBin subD (eBin ixD (eName 17) (eK (.int 1))) (eBin ixD (eName 17) (eK (.int 0)))) (eLst (aCons (eK (.int 1)) (aCons (eK (.int 4)) (aCons (eK (.int 7)) aNil)))))) (eName 17))) aNil)) aNil))))
 (sSeq (sIf (tOrB (tBl (eBin isnD (eNew (nCall m_is_of_threes (aCons (eName 16) aNil))) (eK (.bl true)))) (tTru (eNew (nCall m_is_web (aCons (eTup (aCons (eK (.int 8)) (aCons (eCallV tupleD (aCons (eNew (nCall m__law_pairs (aCons (eK (.int 8)) aNil))) aNil)) aNil))) aNil)))))
 (sRet (eK (.bl false)))
 SO.next)
 (sRet (eAnd (eBin eqD (eNew (nCall m_tied (aCons (eName 14) (aCons (eK (.int 4)) aNil)))) (eLst (aCons (eK (.int 1)) (aCons (eK (.int 3)) (aCons (eK (.int 5)) aNil))))) (eBin eqD (eNew (nCall m_tied (aCons (eName 15) (aCons (eK (.int 0)) aNil)))) (eLst (aCons (eK (.int 1)) (aCons (eK (.int 2)) (aCons (eK (.int 3)) aNil)))))))))))))))))
def m_law : List EL.Slot → FR := mOf 1 18 b_law
theorem ok_law (A : Fx K mg) (B : Nx K) (Tb : Tx K mg base) {fd : FuncData} (F : FunD K "law" "law" (defArgs (top 47)) (defBody (top 47)) (defScope (top 47)) [] [] (He.ga K "law") fd) : FnOk P w K mg base (L2N.CX P w) 22 (He.ga K "law") fd ["script"] (spG K (cvK K) (tbK K) m_law) := by
  obtain ⟨fde, FE⟩ := A.d__law_error
  have bE : L2.Binds K fde ["call"] [] := FE.bindsN (fun _ _ _ _ _ _ us hl => match us, hl with | [_], _ => rfl)
  have exm_ok_ : ∀ c z, nmOf c = some z → PySem.W.exmOne K (cvK K c) (.ref (He.ga K "RoundError")) = some true := fun c z h => B.cls.exm c (nmOf_mem h)
  exact fn_okC F sc_law (by decide) fun Ar outer s H E O vs as hr =>
   have tk := L2N.takes_of (X := cxOf (L2N.CX P w) P w K mg base ["script", "cell", "drum", "turn", "one", "some", "place", "good", "row", "bent", "step", "odd", "value", "all_so", "prism", "star", "many", "tie_so"] "law" (defScope (top 47)) (He.ga K "law") (.ref (He.codeOf K ("law", none))) Ar outer s H E) rfl rfl rfl rfl
   (bv_cons (sv_for (L2.passes_of rfl) (iv_seq (ev_slice (ev_add (ev_lst (av_cons ev_int av_nil)) (ev_name 0)) pov_none (pov_some ev_int))) (gv_name 1 sc_law.nd)
 (bv_cons (sv_new 2 (nv_call (ok__law_drum A) (by decide) hr rfl tk (av_cons (ev_name 1) (av_cons ev_int av_nil))) sc_law.nd)
 (bv_cons (sv_for (L2.passes_of rfl) (iv_rng1 (av_cons ev_int av_nil) rfl A.b_range) (gv_name 3 sc_law.nd)
 (bv_cons (sv_set 4 (ev_new (nv_call (ok__law_web A) (by decide) hr rfl tk (av_cons (ev_name 2) (av_cons ev_int av_nil)))) sc_law.nd)
 (bv_cons (sv_if (Wv.tv (wv_or (tv_not (tv_truth (ev_new (nv_call (ok__law_judged A B Tb) (by decide) hr rfl tk (av_cons (ev_name 4) av_nil))))) (wv_or1 (tv_not (tv_truth (ev_new (nv_call (ok__law_is_web A) (by decide) hr rfl tk (av_cons (ev_name 4) av_nil))))))))
 (bv_one (sv_ret ev_bl))
 bv_nil)
 (bv_cons (sv_ownComp 5 (own := [("place", 6)]) sc_law.nd (blkOk_by (by show blkC N_law (defScope (top 47)) _ _ = true; decide +kernel)) (iv_rng1 (av_cons (ev_ix (ev_name 4) ev_int) av_nil) rfl A.b_range) (fun _ _ _ _ _ => (gv_name 6 sc_law.nd)) (fun _ _ _ _ _ => tsv_nil) (fun _ _ _ _ _ => (ev_new (nv_call (ok__law_near A) (by decide) hr rfl takes0N (av_cons (ev_name 4) (av_cons (ev_name 6) av_nil))))))
 (bv_cons (sv_if (tv_ne hr (ev_fresh (fv_comp (own := [("place", 6)]) sc_law.nd (blkOk_by (by show blkC N_law (defScope (top 47)) _ _ = true; decide +kernel)) (iv_rng1 (av_cons (ev_ix (ev_name 4) ev_int) av_nil) rfl A.b_range) (fun _ _ _ _ _ => (gv_name 6 sc_law.nd)) (fun _ _ _ _ _ => tsv_nil) (fun _ _ _ _ _ => (ev_new (nv_call (ok_tied A) (by decide) hr rfl takes0N (av_cons (ev_name 4) (av_cons (ev_name 6) av_nil))))))) (ev_name 5))
 (bv_one (sv_ret ev_bl))
 bv_nil)
 (bv_cons (sv_set 7 (ev_eq hr (ev_fresh (fv_comp (own := [("row", 8)]) sc_law.nd (blkOk_by (by show blkC N_law (defScope (top 47)) _ _ = true; decide +kernel)) (iv_seq (ev_name 5)) (fun _ _ _ _ _ => (gv_name 8 sc_law.nd)) (fun _ _ _ _ _ => (tsv_one (tv_ne hr (ev_len rfl A.b_len (av_cons (ev_name 8) av_nil)) ev_int))) (fun _ _ _ _ _ => (ev_name 8)))) (ev_lst av_nil)) sc_law.nd)
 (bv_cons (sv_if (Wv.tv (wv_or (tv_ne hr (ev_new (nv_call (ok_is_of_threes A) (by decide) hr rfl tk (av_cons (ev_name 4) av_nil))) (ev_name 7)) (wv_or1 (tv_not (tv_truth (ev_isi (T := "bool") (ev_new (nv_call (ok_is_of_threes A) (by decide) hr rfl tk (av_cons (ev_name 4) av_nil))) rfl A.b_isinstance rfl A.b_bool (by decide +kernel)))))))
 (bv_one (sv_ret ev_bl))
 bv_nil)
 (bv_cons (sv_set 9 (ev_name 4) sc_law.nd)
 (bv_cons (sv_for (L2.passes_of rfl) (iv_rng1 (av_cons ev_int av_nil) rfl A.b_range) (gv_name 10 sc_law.nd)
 (bv_cons (sv_set 9 (ev_new (nv_call (ok__law_bent A 16) (by decide) hr rfl tk (av_cons (ev_name 2) (av_cons (ev_if (tv_eq hr (ev_mod (ev_cint rfl A.b_int (av_cons (ev_name 10) av_nil)) ev_int) ev_int) (ev_name 4) (ev_name 9)) av_nil)))) sc_law.nd)
 (bv_one (sv_if (tv_not (tv_truth (ev_new (nv_call (ok__law_judged A B Tb) (by decide) hr rfl tk (av_cons (ev_name 9) av_nil)))))
 (bv_one (sv_ret ev_bl))
 bv_nil))))
 (bv_one (sv_for (L2.passes_of rfl) (iv_seq (ev_tup (av_cons ev_non (av_cons (ev_neg ev_int) (av_cons (ev_ix (ev_name 4) ev_int) (av_cons ev_bl (av_cons ev_str av_nil))))))) (gv_name 11 sc_law.nd)
 (bv_one (sv_if (tv_ne hr (ev_err (k := 5) (nm := nmOf) rfl A.m__law_error FE bE sc__law_error (Or.inl rfl) (fun cdg => gives_error (nms_ok A B) (by decide) A.g_RoundError rfl rfl rfl) Tb.t_law ((List.mem_cons_of_mem _ (List.mem_cons_self ..)) : (tabK K "law", _) ∈ tbK K) (uniq_tab (tb_nodup B) (List.mem_cons_of_mem _ (List.mem_cons_self ..))) exm_ok_ (hr.mono (by decide)) (lamS_by (by show lamSB (defScope (top 47)) _ = true; decide +kernel)) (fun _ _ _ _ _ _ _ hr => (ev_new (nv_call (ok_tied A) (by decide) hr rfl lamE_takes (av_cons (ev_name 4) (av_cons (ev_name 11) av_nil)))))) ev_str)
 (bv_one (sv_ret ev_bl))
 bv_nil)))))))))))))
 (bv_one (sv_if (tv_not (tv_truth (ev_new (nv_call (ok__law_judged A B Tb) (by decide) hr rfl tk (av_cons (ev_new (nv_call (ok__law_odd A 3) (by decide) hr rfl tk (av_cons (ev_name 2) (av_cons ev_int av_nil)))) av_nil)))))
 (bv_one (sv_ret ev_bl))
 bv_nil)))))
 (bv_cons (sv_for (L2.passes_of rfl) (iv_seq (ev_new (nv_call00 (ok__law_written A) (by decide) hr rfl tk))) (gv_name 4 sc_law.nd)
 (bv_one (sv_if (tv_isn (ev_new (nv_call (ok_is_web A) (by decide) hr rfl tk (av_cons (ev_name 4) av_nil))) ev_bl)
 (bv_one (sv_ret ev_bl))
 bv_nil)))
 (bv_cons (sv_new 5 (nv_fv (fv_lst (av_cons (ev_tup (av_cons ev_int (av_cons (ev_tup (av_cons (ev_tup (av_cons ev_int (av_cons ev_int av_nil))) (av_cons (ev_tup (av_cons ev_int (av_cons ev_int av_nil))) (av_cons (ev_tup (av_cons ev_int (av_cons ev_int av_nil))) av_nil)))) av_nil))) (av_cons (ev_tup (av_cons ev_int (av_cons (ev_tup (av_cons (ev_tup (av_cons ev_int (av_cons ev_int av_nil))) (av_cons (ev_tup (av_cons ev_int (av_cons ev_int av_nil))) av_nil))) av_nil))) (av_cons (ev_tup (av_cons ev_int (av_cons (ev_tup av_nil) av_nil))) (av_cons (ev_tup (av_cons ev_int (av_cons (ev_tup av_nil) av_nil))) (av_cons (ev_tup (av_cons ev_int (av_cons (ev_tup (av_cons (ev_tup (av_cons ev_int (av_cons ev_int av_nil))) av_nil)) av_nil))) (av_cons (ev_tup (av_cons ev_int (av_cons (ev_tup av_nil) av_nil))) av_nil)))))))) sc_law.nd)
 (bv_cons (sv_expr (ev_meth PySem.F.slot_list_append PySem.F.type_list_append mt_append me_append rfl (by first | exact Or.inl rfl | exact Or.inr (Or.inl rfl) | exact Or.inr (Or.inr rfl)) (av_cons (ev_tup (av_cons ev_int (av_cons (ev_tup (av_cons (ev_tup (av_cons ev_int (av_cons ev_int av_nil))) (av_cons (ev_tup (av_cons ev_int (av_cons ev_int av_nil))) av_nil))) av_nil))) av_nil)))
 (bv_cons (sv_if (Wv.tv (wv_or (tv_ne hr (ev_fresh (fv_comp (own := [("value", 12)]) sc_law.nd (blkOk_by (by show blkC N_law (defScope (top 47)) _ _ = true; decide +kernel)) (iv_seq (ev_name 5)) (fun _ _ _ _ _ => (gv_name 12 sc_law.nd)) (fun _ _ _ _ _ => tsv_nil) (fun _ _ _ _ _ => (ev_new (nv_call (ok_is_web A) (by decide) hr rfl takes0N (av_cons (ev_name 12) av_nil)))))) (ev_mul (ev_lst (av_cons ev_bl av_nil)) ev_int)) (wv_or1 (tv_isn (ev_new (nv_call (ok_is_web A) (by decide) hr rfl tk (av_cons (ev_tup (av_cons ev_int (av_cons (ev_tup (av_cons (ev_tup (av_cons ev_int (av_cons ev_int av_nil))) (av_cons (ev_tup (av_cons ev_int (av_cons ev_int av_nil))) av_nil))) av_nil))) av_nil))) ev_bl))))
 (bv_one (sv_ret ev_bl))
 bv_nil)
 (bv_cons (sv_par3 13 14 15 (av_cons (ev_ix (ev_new (nv_call00 (ok__law_written A) (by decide) hr rfl tk)) ev_int) (av_cons (ev_ix (ev_new (nv_call00 (ok__law_written A) (by decide) hr rfl tk)) ev_int) (av_cons (ev_ix (ev_new (nv_call00 (ok__law_written A) (by decide) hr rfl tk)) ev_int) av_nil))) sc_law.nd)
 (bv_cons (sv_new 5 (nv_fv (fv_lst (av_cons (ev_new (nv_call (ok_is_of_threes A) (by decide) hr rfl tk (av_cons (ev_name 13) av_nil))) (av_cons (ev_new (nv_call (ok_is_of_threes A) (by decide) hr rfl tk (av_cons (ev_name 14) av_nil))) (av_cons (ev_new (nv_call (ok_is_of_threes A) (by decide) hr rfl tk (av_cons (ev_name 15) av_nil))) (av_cons (ev_new (nv_call (ok_is_of_threes A) (by decide) hr rfl tk (av_cons (ev_ix (ev_new (nv_call00 (ok__law_written A) (by decide) hr rfl tk)) ev_int) av_nil))) av_nil)))))) sc_law.nd)
 (bv_cons (sv_if (tv_ne hr (ev_name 5) (ev_lst (av_cons ev_bl (av_cons ev_bl (av_cons ev_bl (av_cons ev_bl av_nil))))))
 (bv_one (sv_ret ev_bl))
 bv_nil)
 (bv_cons (sv_set 16 (ev_tup (av_cons ev_int (av_cons (ev_ctuple rfl A.b_tuple (av_cons (ev_fresh (fv_comp (own := [("tie_so", 17)]) sc_law.nd (blkOk_by (by show blkC N_law (defScope (top 47)) _ _ = true; decide +kernel)) (iv_seq (ev_new (nv_call (ok__law_pairs A) (by decide) hr rfl tk (av_cons ev_int av_nil)))) (fun _ _ _ _ _ => (gv_name 17 sc_law.nd)) (fun _ _ _ _ _ => (tsv_one (tv_in hr (ev_sub (ev_ix (ev_name 17) ev_int) (ev_ix (ev_name 17) ev_int)) (ev_lst (av_cons ev_int (av_cons ev_int (av_cons ev_int av_nil))))))) (fun _ _ _ _ _ => (ev_name 17)))) av_nil)) av_nil))) sc_law.nd)
 (bv_cons (sv_if (Wv.tv (wv_or (tv_isn (ev_new (nv_call (ok_is_of_threes A) (by decide) hr rfl tk (av_cons (ev_name 16) av_nil))) ev_bl) (wv_or1 (tv_truth (ev_new (nv_call (ok_is_web A) (by decide) hr rfl tk (av_cons (ev_tup (av_cons ev_int (av_cons (ev_ctuple rfl A.b_tuple (av_cons (ev_new (nv_call (ok__law_pairs A) (by decide) hr rfl tk (av_cons ev_int av_nil))) av_nil)) av_nil))) av_nil)))))))
 (bv_one (sv_ret ev_bl))
 bv_nil)
 (bv_one (sv_ret (ev_and (ev_eq hr (ev_new (nv_call (ok_tied A) (by decide) hr rfl tk (av_cons (ev_name 14) (av_cons ev_int av_nil)))) (ev_lst (av_cons ev_int (av_cons ev_int (av_cons ev_int av_nil))))) (ev_one (ev_eq hr (ev_new (nv_call (ok_tied A) (by decide) hr rfl tk (av_cons (ev_name 15) (av_cons ev_int av_nil)))) (ev_lst (av_cons ev_int (av_cons ev_int (av_cons ev_int av_nil)))))))))))))))))))
end
end HD

namespace HD
open PySem PySem.Spec PyProof.Rows L2 EL LamX
/-! ### drum -/
abbrev drS (a b : Int) : EL.Slot := .own true (.lst [.int a, .int b])
theorem cMul_r {i j : Int} (h : -(2 ^ 64) < j ∧ j < 2 ^ 64) : cMulB i j = true := by
  unfold cMulB
  rw [show decide (-(2 ^ 64) < j ∧ j < 2 ^ 64) = true from decide_eq_true h, Bool.or_true]
theorem roll_ok (a b n : Int) (hn : 0 < n) (hn2 : n < 1073741824) : ∃ j a' b', m__law_roll [drS a b, .val (.int n)] = .ok (.int j) [drS a' b', .val (.int n)] ∧ 0 ≤ j ∧ j < n := by
  unfold m__law_roll
  rw [show ∀ fb, mOf 2 4 fb [drS a b, .val (.int n)] = _ from fun fb => mOf_eq rfl]
  by_cases ha : 0 < a
  · refine ⟨a % n, a / n, b, ?_, Int.emod_nonneg _ (by omega), Int.emod_lt_of_pos _ hn⟩
    simp [b__law_roll, ha, hn, hn2]
  · have e1 : ∀ x y : Int, 0 < y → y < 2 ^ 60 → cMulB (x % y) (x % y + 101) = true := fun x y hy hy2 => cMul_r (by
      have := Int.emod_nonneg x (b := y) (by omega)
      have := Int.emod_lt_of_pos x hy
      omega)
    have e2 : ∀ x : Int, cMulB x 30671 = true := fun x => cMul_r (by decide)
    refine ⟨((b * 30671 + 8807) % 2147483549 * ((b * 30671 + 8807) % 2147483549 + 101)) % 2147483587 / 613 % n, a, (b * 30671 + 8807) % 2147483549, ?_, Int.emod_nonneg _ (by omega), Int.emod_lt_of_pos _ hn⟩
    simp [b__law_roll, ha, hn, hn2, e1, e2]
theorem drum_ok (c t : Int) (ht : -1000 ≤ t ∧ t ≤ 1000) : ∃ a b, m__law_drum [.val (.int c), .val (.int t)] = .new (.lst [.int a, .int b]) [.val (.int c), .val (.int t)] := by
  unfold m__law_drum
  rw [show ∀ fb, mOf 2 3 fb [.val (.int c), .val (.int t)] = _ from fun fb => mOf_eq rfl]
  have e0 : ∀ x : Int, cMulB x 97 = true := fun x => cMul_r (by decide)
  have e1 : cMulB 1087 t = true := cMul_r (by omega)
  have e2 : cMulB 61 t = true := cMul_r (by omega)
  have e3 : powD (.int 10) (.int 18) = some (.int 1000000000000000000) := by simp [powD, iiD]
  refine ⟨if 1000000000000000000 ≤ c then c / 7 + 61 * t else 0, (c * 97 + 1087 * t) % 2077504273 + 71, ?_⟩
  by_cases h : (1000000000000000000 : Int) ≤ c
  · simp [b__law_drum, e0, e1, e2, e3, h, storeL]
  · simp [b__law_drum, e0, e1, e2, e3, h, storeL]
/-! ### types -/
@[simp] theorem isi_int_int (i : Int) : isiD "int" (.int i) = some (.bl true) := rfl
@[simp] theorem isi_int_bl (b : Bool) : isiD "int" (.bl b) = some (.bl true) := rfl
@[simp] theorem isi_int_non : isiD "int" .non = some (.bl false) := rfl
@[simp] theorem isi_int_str (x : Str) : isiD "int" (.str x) = some (.bl false) := rfl
@[simp] theorem isi_int_tup (x : List D) : isiD "int" (.tup x) = some (.bl false) := rfl
@[simp] theorem isi_int_lst (x : List D) : isiD "int" (.lst x) = some (.bl false) := rfl
@[simp] theorem isi_bool_int (i : Int) : isiD "bool" (.int i) = some (.bl false) := rfl
@[simp] theorem isi_bool_bl (b : Bool) : isiD "bool" (.bl b) = some (.bl true) := rfl
@[simp] theorem isi_bool_non : isiD "bool" .non = some (.bl false) := rfl
@[simp] theorem isi_bool_str (x : Str) : isiD "bool" (.str x) = some (.bl false) := rfl
@[simp] theorem isi_bool_tup (x : List D) : isiD "bool" (.tup x) = some (.bl false) := rfl
@[simp] theorem isi_bool_lst (x : List D) : isiD "bool" (.lst x) = some (.bl false) := rfl
@[simp] theorem isi_tup_int (i : Int) : isiD "tuple" (.int i) = some (.bl false) := rfl
@[simp] theorem isi_tup_bl (b : Bool) : isiD "tuple" (.bl b) = some (.bl false) := rfl
@[simp] theorem isi_tup_non : isiD "tuple" .non = some (.bl false) := rfl
@[simp] theorem isi_tup_str (x : Str) : isiD "tuple" (.str x) = some (.bl false) := rfl
@[simp] theorem isi_tup_tup (x : List D) : isiD "tuple" (.tup x) = some (.bl true) := rfl
@[simp] theorem isi_tup_lst (x : List D) : isiD "tuple" (.lst x) = some (.bl false) := rfl
@[simp] theorem truD_bl (b : Bool) : truD (.bl b) = some b := rfl
@[simp] theorem lenD_t (x : List D) : lenD [.tup x] = some (.int x.length) := rfl
@[simp] theorem lenD_l (x : List D) : lenD [.lst x] = some (.int x.length) := rfl
@[simp] theorem eqD_i (i j : Int) : eqD (.int i) (.int j) = some (.bl (decide (i = j))) := by
  unfold eqD eqd
  simp [toP, PyData.eqv]
  rfl
@[simp] theorem neD_i (i j : Int) : neD (.int i) (.int j) = some (.bl (!decide (i = j))) := by
  unfold neD eqd
  simp [toP, PyData.eqv]
  rfl
def typed : D → Bool
  | .ins _ _ => false
  | .ref _ => false
  | _ => true
def wholeB (d : D) (lo hi : Int) : Bool := match d with
  | .int i => decide (lo ≤ i) && decide (i ≤ hi)
  | _ => false
theorem is_whole_eq (d : D) (lo hi : Int) (h : typed d = true) : m_is_whole [.val d, .val (.int lo), .val (.int hi)] = .ok (.bl (wholeB d lo hi)) [.val d, .val (.int lo), .val (.int hi)] := by
  unfold m_is_whole
  rw [show ∀ fb, mOf 3 3 fb [.val d, .val (.int lo), .val (.int hi)] = _ from fun fb => mOf_eq rfl]
  cases d with
  | ins => cases h
  | ref => cases h
  | int i =>
    by_cases h1 : lo ≤ i
    · simp [b_is_whole, wholeB, h1]
    · simp [b_is_whole, wholeB, h1]
  | _ => simp [b_is_whole, wholeB]
def tieB (n : Int) (d : D) : Bool := match d with
  | .tup [.int a, .int b] => decide (0 ≤ a) && decide (a < b) && decide (b < n)
  | _ => false
theorem fits_tie_eq (n : Int) (d : D) (h : typed d = true) (h2 : ∀ xs, d = .tup xs → xs.all typed = true) : m_fits_tie [.val (.int n), .val d] = .ok (.bl (tieB n d)) [.val (.int n), .val d] := by
  unfold m_fits_tie
  rw [show ∀ fb, mOf 2 2 fb [.val (.int n), .val d] = _ from fun fb => mOf_eq rfl]
  cases d with
  | ins => cases h
  | ref => cases h
  | tup xs =>
    have hx := h2 xs rfl
    match xs, hx with
    | [], _ => simp [b_fits_tie, tieB]
    | [x], _ => simp [b_fits_tie, tieB]
    | x :: y :: z :: r, _ => 
      have e : ¬ ((r.length : Int) + 1 + 1 + 1 = 2) := by omega
      simp [b_fits_tie, tieB, e]
    | [x, y], hx =>
      have tx : typed x = true := by simp at hx; exact hx.1
      have ty : typed y = true := by simp at hx; exact hx.2
      cases q : wholeB x 0 (n - 1) with
      | false =>
        simp [b_fits_tie, is_whole_eq _ _ _ tx, q]
        cases x with
        | int a =>
          cases y with
          | int b =>
            simp [wholeB] at q
            simp [tieB]
            omega
          | _ => rfl
        | _ => rfl
      | true =>
        cases x with
        | int a =>
          simp [wholeB] at q
          simp [b_fits_tie, is_whole_eq _ _ _ ty, is_whole_eq (.int a) _ _ rfl, wholeB, q]
          cases y with
          | int b =>
            have e1 : decide (a + 1 ≤ b) = decide (a < b) := by rw [decide_eq_decide]; omega
            have e2 : decide (b ≤ n - 1) = decide (b < n) := by rw [decide_eq_decide]; omega
            simp [tieB, q, e1, e2]
          | _ => rfl
        | _ => cases q
  | _ => simp [b_fits_tie, tieB]
end HD

namespace HD
open PySem PySem.Spec PyProof.Rows L2 EL LamX
abbrev tieD (t : Int × Int) : D := .tup [.int t.1, .int t.2]
abbrev webD (n : Int) (ts : List (Int × Int)) : D := .tup [.int n, .tup (ts.map tieD)]
def nearB (p : Int) (t : Int × Int) : Bool := decide (t.1 = p) || decide (t.2 = p)
def nearI (ts : List (Int × Int)) (p : Int) : List Int := (ts.filter (nearB p)).map fun t => t.1 + t.2 - p
def sI (xs : List Int) : List D := sortD (xs.map .int)
theorem sI_len (xs : List Int) : (sI xs).length = xs.length := by simp [sI, sortD]
theorem sI_int (xs : List Int) : ∀ d ∈ sI xs, ∃ i, d = .int i := fun d h => by
  have h2 := (List.mergeSort_perm (xs.map D.int) _).mem_iff.mp h
  obtain ⟨i, _, e⟩ := List.mem_map.mp h2
  exact ⟨i, e.symm⟩
theorem sI_sorted (xs : List Int) (h : xs.length ≤ 16777216) : sortedD [.lst (xs.map .int)] = some (.lst (sI xs)) := by
  show (if okSort (xs.map D.int) = true then _ else _) = _
  rw [if_pos]
  · rfl
  · unfold okSort
    simp only [Bool.and_eq_true, Bool.or_eq_true, decide_eq_true_eq, List.all_eq_true, List.length_map]
    refine ⟨⟨⟨fun d hd => ?_, fun d hd e he => ?_⟩, Or.inr fun d hd => ?_⟩, h⟩
    · obtain ⟨i, _, rfl⟩ := List.mem_map.mp hd
      simp
    · obtain ⟨i, _, rfl⟩ := List.mem_map.mp hd
      obtain ⟨j, _, rfl⟩ := List.mem_map.mp he
      rfl
    · obtain ⟨i, _, rfl⟩ := List.mem_map.mp hd
      rfl
@[simp] theorem inD_pair (p a b : Int) : inD (.int p) (.tup [.int a, .int b]) = some (.bl (nearB p (a, b))) := by
  show (if okd 60 (.int p) = true ∧ okd 60 (.tup [.int a, .int b]) = true then some (D.bl (memd (.int p) [.int a, .int b])) else none) = _
  rw [if_pos ⟨by simp, by simp⟩]
  unfold memd eqd nearB
  simp [toP, PyData.eqv]
  rfl
theorem near_eq (n : Int) (ts : List (Int × Int)) (p : Int) (hl : ts.length ≤ 16777216) : m_near [.val (webD n ts), .val (.int p)] = .ok (.lst (sI (nearI ts p))) [.val (webD n ts), .val (.int p)] := by
  unfold m_near
  rw [show ∀ fb, mOf 2 4 fb [.val (webD n ts), .val (.int p)] = _ from fun fb => mOf_eq rfl]
  simp [b_near]
  rw [eCompL_of (ds := ts.map tieD) (ρ1 := [.val (webD n ts), .val (.int p), .un, .un]) (zs := (ts.filter (nearB p)).map fun t => .int (t.1 + t.2 - p)) (ρ2 := [.val (webD n ts), .val (.int p), .un, .un]) ?h1 ?h2]
  case h1 => simp
  case h2 =>
    refine compPure (nearB p) _ hl fun t _ => ⟨[.val (webD n ts), .val (.int p), .val (.int t.1), .val (.int t.2)], ?_, ?_, ?_, ?_⟩
    · rfl
    · simp [storeL]
    · intro _
      simp
    · rfl
  have e : (ts.filter (nearB p)).map (fun t => D.int (t.1 + t.2 - p)) = (nearI ts p).map .int := by simp [nearI, Function.comp_def]
  have hl2 : (nearI ts p).length ≤ 16777216 := by
    unfold nearI
    rw [List.length_map]
    exact Nat.le_trans (List.length_filter_le _ _) hl
  simp [e, sI_sorted _ hl2]
end HD

namespace HD
open PySem PySem.Spec PyProof.Rows L2 EL LamX
theorem typed_of {n : Nat} {d : D} (h : okd n d = true) : typed d = true := by
  cases n with
  | zero => cases d <;> first | rfl | cases h
  | succ n => cases d <;> first | rfl | cases h
theorem all_typed {n : Nat} {xs : List D} (h : okd (n + 1) (.tup xs) = true) : xs.all typed = true := by
  rw [okd_tup, List.all_eq_true] at h
  rw [List.all_eq_true]
  exact fun d hd => typed_of (h d hd)
def okN (n : Int) : Bool := decide (n = 4) || decide (n = 6) || decide (n = 8) || decide (n = 10)
def ascB : List (Int × Int) → Bool
  | a :: b :: r => decide (codeP a < codeP b) && ascB (b :: r)
  | _ => true
def degP (ts : List (Int × Int)) (p : Nat) : Bool := decide (((nearI ts (p : Int)).length : Int) % 2 = 1)
def degB (n : Int) (ts : List (Int × Int)) : Bool := (List.range n.toNat).all (degP ts)
def ascLt (ts : List (Int × Int)) (i : Nat) : Bool := decide (codeP (ts.getD i (0, 0)) < codeP (ts.getD (i + 1) (0, 0)))
def tieOf : D → Int × Int
  | .tup [.int a, .int b] => (a, b)
  | _ => (0, 0)
def tiesB (n : Int) (ts : List (Int × Int)) : Bool := ts.all fun t => decide (0 ≤ t.1) && decide (t.1 < t.2) && decide (t.2 < n)
def webB (d : D) : Bool := match d with
  | .tup [.int n, .tup ys] => okN n && decide (ys.length ≤ 15) && ys.all (tieB n) && ascB (ys.map tieOf) && degB n (ys.map tieOf)
  | _ => false
theorem tieB_of {n : Int} {d : D} (h : tieB n d = true) : d = tieD (tieOf d) ∧ 0 ≤ (tieOf d).1 ∧ (tieOf d).1 < (tieOf d).2 ∧ (tieOf d).2 < n := by
  unfold tieB at h
  split at h
  · simp at h
    exact ⟨rfl, h.1.1, h.1.2, h.2⟩
  · cases h
theorem ties_of {n : Int} {ys : List D} (h : ys.all (tieB n) = true) : ys = (ys.map tieOf).map tieD ∧ ∀ t ∈ ys.map tieOf, 0 ≤ t.1 ∧ t.1 < t.2 ∧ t.2 < n := by
  rw [List.all_eq_true] at h
  refine ⟨?_, fun t ht => ?_⟩
  · rw [List.map_map]
    conv => lhs; rw [← List.map_id ys]
    exact List.map_congr_left fun d hd => (tieB_of (h d hd)).1
  · obtain ⟨d, hd, rfl⟩ := List.mem_map.mp ht
    exact (tieB_of (h d hd)).2
theorem lex_code {a b : Int × Int} {n : Int} (hn : n ≤ 10) (ha : 0 ≤ a.1 ∧ a.1 < a.2 ∧ a.2 < n) (hb : 0 ≤ b.1 ∧ b.1 < b.2 ∧ b.2 < n) : HT.lexLt [a.1, a.2] [b.1, b.2] = decide (codeP a < codeP b) := by
  unfold codeP
  simp only [HT.lexLt]
  by_cases e : a.1 = b.1
  · by_cases e2 : a.2 = b.2
    · simp [e, e2]
    · rw [if_pos e, if_neg e2, decide_eq_decide]; omega
  · rw [if_neg e, decide_eq_decide]; omega
theorem ascB_range : ∀ (ts : List (Int × Int)), ascB ts = (List.range (ts.length - 1)).all (ascLt ts)
  | [] => rfl
  | [a] => rfl
  | a :: b :: r => by
    show (decide (codeP a < codeP b) && ascB (b :: r)) = _
    rw [ascB_range (b :: r)]
    show _ = (List.range (r.length + 1)).all _
    rw [List.range_succ_eq_map, List.all_cons, List.all_map]
    rfl
theorem blsOf_map {α : Type} (f : α → Bool) : ∀ xs : List α, blsOf (xs.map fun x => D.bl (f x)) = some (xs.map f)
  | [] => rfl
  | x :: xs => by rw [List.map_cons, blsOf_cons, blsOf_map f xs]; rfl
@[simp] theorem allD_map {α : Type} (f : α → Bool) (xs : List α) : allD [.lst (xs.map fun x => D.bl (f x))] = some (.bl (xs.all f)) := by
  show (blsOf _).map _ = _
  rw [blsOf_map]
  simp [Function.comp_def, List.all_map]
theorem compAll {α : Type} {xs : List α} {mk : α → D} {vs : List Nat} {tg : Tg} {fe : EL.Env → Out Rv} {ρ : EL.Env} (g : α → D) (hn : xs.length ≤ 16777216)
    (step : ∀ x ∈ xs, ∃ ρ1, tg (mk x) ρ = some ρ1 ∧ fe ρ1 = .ok (.val (g x)) ρ1 ∧ wipeE vs ρ1 = ρ) :
    compN (.of (xs.map mk)) vs tg tYesB fe (xs.map mk).length 0 [] ρ = .ok (xs.map g) ρ := by
  have h := compPure (xs := xs) (mk := mk) (vs := vs) (tg := tg) (ft := tYesB) (fe := fe) (ρ := ρ) (fun _ => true) g hn fun x hx => let ⟨ρ1, a, b, c⟩ := step x hx; ⟨ρ1, a, rfl, fun _ => b, c⟩
  rw [h, show xs.filter (fun _ => true) = xs from List.filter_eq_self.mpr fun _ _ => rfl]
theorem rng1_eq {j : Int} {k : Nat} (e : j.toNat = k) (h : -100 ≤ j ∧ j < 100000) : rng1 [.val (.int j)] = some (.of ((List.range k).map fun (i : Nat) => D.int (0 + (i : Int)))) := by
  subst e
  show (if _ then _ else _) = _
  rw [if_pos (by omega)]
theorem atI_nat {α : Type} {xs : List α} {i : Int} {k : Nat} (e : i = k) (h : k < xs.length) : atI xs i = some (xs[k]'h) := by
  subst e
  unfold atI ixN
  rw [if_pos (by omega), if_pos (by omega)]
  simp
@[simp] theorem ltD_tie (a b : Int × Int) : ltD (tieD a) (tieD b) = some (.bl (HT.lexLt [a.1, a.2] [b.1, b.2])) := rfl
theorem fits_web_eq (d : D) (h : okd 60 d = true) : m_fits_web [.val d] = .ok (.bl (webB d)) [.val d] := by
  unfold m_fits_web
  rw [show ∀ fb, mOf 1 4 fb [.val d] = _ from fun fb => mOf_eq rfl]
  cases d with
  | ins => cases h
  | ref => cases h
  | tup xs =>
    have hx := all_typed h
    match xs, h, hx with
    | [], _, _ => simp [b_fits_web, webB, neD_i]
    | [x], _, _ => simp [b_fits_web, webB]
    | x :: y :: z :: r, _, _ =>
      have e : ¬ ((r.length : Int) + 1 + 1 + 1 = 2) := by omega
      simp [b_fits_web, webB, e]
    | [x, y], h, hx =>
      have tx : typed x = true := by simp at hx; exact hx.1
      cases q : wholeB x 4 10 with
      | false =>
        have e : webB (.tup [x, y]) = false := by
          cases x with
          | int i =>
            have e2 : okN i = false := by
              simp [wholeB] at q
              simp [okN]
              omega
            cases y <;> simp [webB, e2]
          | _ => rfl
        simp [b_fits_web, is_whole_eq _ _ _ tx, q, e]
      | true =>
        cases x with
        | int n =>
          simp [wholeB] at q
          by_cases od : n % 2 = 1
          · have e2 : okN n = false := by simp [okN]; omega
            have e : webB (.tup [.int n, y]) = false := by cases y <;> simp [webB, e2]
            simp [b_fits_web, is_whole_eq (.int n) _ _ rfl, wholeB, q, od, e]
          · have e2 : okN n = true := by simp [okN]; omega
            cases y with
            | ins => simp [typed] at hx
            | ref => simp [typed] at hx
            | tup ys =>
              by_cases hl : ys.length ≤ 15
              · have hl2 : ¬ ((15 : Int) < ys.length) := by omega
                have hl3 : (decide ((15 : Int) < ys.length)) = false := decide_eq_false hl2
                simp only [okd_tup, List.all_cons, List.all_nil, Bool.and_true, Bool.and_eq_true] at h
                have ho : ys.all (okd 58) = true := h.2
                rw [List.all_eq_true] at ho
                simp [b_fits_web, is_whole_eq (.int n) _ _ rfl, wholeB, q, od, hl2, hl3]
                rw [eCompL_of (ds := ys) (ρ1 := [.val (.tup [.int n, .tup ys]), .un, .un, .un]) (zs := ys.map fun d => .bl (tieB n d)) (ρ2 := [.val (.tup [.int n, .tup ys]), .un, .un, .un]) ?h1 ?h2]
                case h1 => simp
                case h2 =>
                  have := compAll (xs := ys) (mk := id) (vs := [1]) (tg := gSet 1) (fe := (eNew (nCall m_fits_tie (aCons (eBin ixD (eName 0) (eK (.int 0))) (aCons (eName 1) aNil))))) (ρ := [.val (.tup [.int n, .tup ys]), .un, .un, .un]) (fun d => .bl (tieB n d)) (by omega) fun d hd => ⟨[.val (.tup [.int n, .tup ys]), .val d, .un, .un], rfl, by
                    have ok := ho d hd
                    simp [fits_tie_eq n d (typed_of ok) (fun xs e => by subst e; exact all_typed ok)], rfl⟩
                  simpa using this
                cases qt : ys.all (tieB n) with
                | false => simp [qt, webB]
                | true =>
                  obtain ⟨ey, ht⟩ := ties_of qt
                  have ey2 : ∀ ts, ts = ys.map tieOf → ys = ts.map tieD := fun ts e => by rw [e]; exact ey
                  generalize hts : ys.map tieOf = ts at ht
                  have ey := ey2 ts hts.symm
                  have hlt : ts.length ≤ 15 := by rw [← hts, List.length_map]; exact hl
                  have ew : webB (.tup [.int n, .tup ys]) = (ascB ts && degB n ts) := by simp [webB, e2, hl, qt, hts]
                  rw [ew]
                  simp [qt]
                  subst ey
                  rw [eCompL_of (ds := (List.range (ts.length - 1)).map fun (i : Nat) => D.int (0 + (i : Int))) (ρ1 := [.val (webD n ts), .un, .un, .un]) (zs := (List.range (ts.length - 1)).map fun i => .bl (ascLt ts i)) (ρ2 := [.val (webD n ts), .un, .un, .un]) ?h3 ?h4]
                  case h3 =>
                    simp [rng1_eq (j := (ts.length : Int) - 1) (k := ts.length - 1) (by omega) (by omega)]
                  case h4 =>
                    exact compAll _ (by simp; omega) fun i hi => ⟨[.val (webD n ts), .un, .val (.int (0 + (i : Int))), .un], rfl, by
                      have hi : i < ts.length - 1 := by simpa using hi
                      have a1 : atI (ts.map tieD) (0 + (i : Int)) = some (tieD (ts[i]'(by omega))) := by
                        rw [atI_nat (k := i) (by omega) (by simp; omega)]
                        simp
                      have a2 : atI (ts.map tieD) (0 + (i : Int) + 1) = some (tieD (ts[i + 1]'(by omega))) := by
                        rw [atI_nat (k := i + 1) (by omega) (by simp; omega)]
                        simp
                      have l1 := lex_code (n := n) q.2 (ht (ts[i]'(by omega)) (List.getElem_mem _)) (ht (ts[i + 1]'(by omega)) (List.getElem_mem _))
                      have l2 : ascLt ts i = decide (codeP (ts[i]'(by omega)) < codeP (ts[i + 1]'(by omega))) := by
                        unfold ascLt
                        rw [List.getD_eq_getElem?_getD, List.getD_eq_getElem?_getD, List.getElem?_eq_getElem (by omega), List.getElem?_eq_getElem (by omega)]
                        rfl
                      simp only [eBin_e, eName_e, List.getElem?_cons_zero, List.getElem?_cons_succ, eK_e, Out.bind_ok, ap2_val, ixD_t, atI_1, Option.map_some, Out.of_some, a1, a2, addD_i]
                      rw [ltD_tie, l1, l2]
                      rfl, rfl⟩
                  have ea : (List.range (ts.length - 1)).all (ascLt ts) = ascB ts := (ascB_range ts).symm
                  simp [allD_map, ea]
                  cases qa : ascB ts with
                  | false => simp
                  | true =>
                    simp
                    rw [eCompL_of (ds := (List.range n.toNat).map fun (i : Nat) => D.int (0 + (i : Int))) (ρ1 := [.val (webD n ts), .un, .un, .un]) (zs := (List.range n.toNat).map fun i => .bl (degP ts i)) (ρ2 := [.val (webD n ts), .un, .un, .un]) ?h5 ?h6]
                    case h5 =>
                      simp [rng1_eq (j := n) (k := n.toNat) rfl (by omega)]
                    case h6 =>
                      exact compAll _ (by simp; omega) fun i hi => ⟨[.val (webD n ts), .un, .un, .val (.int (0 + (i : Int)))], rfl, by
                        have en := near_eq n ts (0 + (i : Int)) (by omega)
                        simp only [Int.zero_add] at en
                        simp [en, sI_len, degP], rfl⟩
                    have ed : (List.range n.toNat).all (degP ts) = degB n ts := rfl
                    simp [allD_map, ed]
              · have e : webB (.tup [.int n, .tup ys]) = false := by simp [webB, hl]
                have hl2 : (15 : Int) < ys.length := by omega
                simp [b_fits_web, is_whole_eq (.int n) _ _ rfl, wholeB, q, od, e, hl2]
            | _ => simp [b_fits_web, is_whole_eq (.int n) _ _ rfl, wholeB, q, od, webB]
        | _ => cases q
  | _ => simp [b_fits_web, webB]
end HD

namespace HD
open PySem PySem.Spec PyProof.Rows L2 EL LamX
def rowI (n : Int) (i : Int) : List (Int × Int) := (List.range (n - (i + 1)).toNat).map fun (k : Nat) => (i, i + 1 + (k : Int))
def pairsI (n : Int) : List (Int × Int) := (List.range n.toNat).flatMap fun (i : Nat) => rowI n (i : Int)
theorem mem_pairsI {n : Int} {t : Int × Int} : t ∈ pairsI n ↔ 0 ≤ t.1 ∧ t.1 < t.2 ∧ t.2 < n := by
  unfold pairsI rowI
  simp only [List.mem_flatMap, List.mem_map, List.mem_range]
  constructor
  · rintro ⟨i, hi, k, hk, rfl⟩
    simp
    omega
  · intro h
    refine ⟨t.1.toNat, by omega, (t.2 - t.1 - 1).toNat, by omega, ?_⟩
    refine Prod.ext ?_ ?_ <;> simp <;> omega
def rowD (n : Int) : D → List D
  | .int i => (rowI n i).map tieD
  | _ => []
theorem addD_ll {xs ys : List D} (h : xs.length + ys.length ≤ 16777216) : addD (.lst xs) (.lst ys) = some (.lst (xs ++ ys)) := by
  show (if _ then _ else _) = _
  rw [if_pos h]
theorem rng2_eq {i j : Int} {k : Nat} (e : (j - i).toNat = k) (h : (-100 ≤ i ∧ i < 100000) ∧ -100 ≤ j ∧ j < 100000) : rng2 [.val (.int i), .val (.int j)] = some (.of ((List.range k).map fun (m : Nat) => D.int (i + (m : Int)))) := by
  subst e
  show (if _ then _ else _) = _
  rw [if_pos (by omega)]
theorem rows_len (n : Int) : ∀ pre : List D, (∀ d ∈ pre, ∃ i : Nat, d = .int (0 + (i : Int))) → (pre.flatMap (rowD n)).length ≤ pre.length * n.toNat
  | [], _ => by simp
  | d :: r, h => by
    obtain ⟨i, rfl⟩ := h d List.mem_cons_self
    have ih := rows_len n r fun x hx => h x (List.mem_cons_of_mem _ hx)
    rw [List.flatMap_cons, List.length_append, List.length_cons, Nat.succ_mul]
    have e : (rowD n (.int (0 + (i : Int)))).length ≤ n.toNat := by
      simp only [rowD, rowI, List.length_map, List.length_range]
      omega
    omega
theorem row_comp (n i : Int) (F : D) (h0 : 0 ≤ n) (h : n ≤ 100) (h1 : 0 ≤ i) (h2 : i ≤ 100) : eCompL (iRng rng2 (aCons (eBin addD (eName 2) (eK (.int 1))) (aCons (eName 0) aNil))) [3] (gSet 3) tYesB (eTup (aCons (eName 2) (aCons (eName 3) aNil))) [.val (.int n), .val F, .val (.int i), .un] = .ok ((rowI n i).map tieD) [.val (.int n), .val F, .val (.int i), .un] := by
  rw [eCompL_of (ds := (List.range (n - (i + 1)).toNat).map fun (m : Nat) => D.int (i + 1 + (m : Int))) (ρ1 := [.val (.int n), .val F, .val (.int i), .un]) (zs := (rowI n i).map tieD) (ρ2 := [.val (.int n), .val F, .val (.int i), .un]) ?h3 ?h4]
  case h3 => simp [rng2_eq (i := i + 1) (j := n) rfl (by omega)]
  case h4 =>
    unfold rowI
    rw [List.map_map]
    exact compAll _ (by simp; omega) fun m hm => ⟨[.val (.int n), .val F, .val (.int i), .val (.int (i + 1 + (m : Int)))], rfl, by simp [storeL], rfl⟩
  rfl
theorem row_step (n i : Int) (F : List D) (h0 : 0 ≤ n) (h : n ≤ 100) (h1 : 0 ≤ i) (h2 : i ≤ 100) (hF : F.length ≤ 10000) : sSet 1 (eBin addD (eName 1) (eFresh (eCompL (iRng rng2 (aCons (eBin addD (eName 2) (eK (.int 1))) (aCons (eName 0) aNil))) [3] (gSet 3) tYesB (eTup (aCons (eName 2) (aCons (eName 3) aNil)))))) [.val (.int n), .val (.lst F), .val (.int i), .un] = .next [.val (.int n), .val (.lst (F ++ (rowI n i).map tieD)), .val (.int i), .un] := by
  have hr : (rowI n i).length ≤ 100 := by
    simp only [rowI, List.length_map, List.length_range]
    omega
  have e1 : eName 1 [.val (.int n), .val (.lst F), .val (.int i), .un] = .ok (.val (.lst F)) [.val (.int n), .val (.lst F), .val (.int i), .un] := rfl
  rw [sSet_e, eBin_e, e1, Out.bind_ok, eFresh_e, row_comp n i _ h0 h h1 h2, Out.bind_ok, Out.bind_ok, ap2_val, addD_ll (by rw [List.length_map]; omega)]
  rfl
theorem pairs_eq (n : Int) (h0 : 0 ≤ n) (h : n ≤ 100) : m__law_pairs [.val (.int n)] = .ok (.lst ((pairsI n).map tieD)) [.val (.int n)] := by
  unfold m__law_pairs
  rw [show ∀ fb, mOf 1 4 fb [.val (.int n)] = _ from fun fb => mOf_eq rfl]
  simp [b__law_pairs, storeL]
  rw [sFor_of (ds := (List.range n.toNat).map fun (i : Nat) => D.int (0 + (i : Int))) (ρ1 := [.val (.int n), .val (.lst []), .un, .un]) (by simp [rng1_eq (j := n) (k := n.toNat) rfl (by omega)])]
  obtain ⟨ρ', h1, s, h2⟩ := forL (ds := (List.range n.toNat).map fun (i : Nat) => D.int (0 + (i : Int))) (tg := gSet 2) (ρ := [.val (.int n), .val (.lst []), .un, .un])
    (fb := sSet 1 (eBin addD (eName 1) (eFresh (eCompL (iRng rng2 (aCons (eBin addD (eName 2) (eK (.int 1))) (aCons (eName 0) aNil))) [3] (gSet 3) tYesB (eTup (aCons (eName 2) (aCons (eName 3) aNil)))))))
    (fun pre ρ => ∃ s, ρ = [.val (.int n), .val (.lst (pre.flatMap (rowD n))), s, .un]) ⟨.un, rfl⟩ (fun pre d post ρ e hI => by
      obtain ⟨s, rfl⟩ := hI
      have hm : ∀ x ∈ (List.range n.toNat).map (fun (i : Nat) => D.int (0 + (i : Int))), ∃ i : Nat, i < n.toNat ∧ x = D.int (0 + (i : Int)) := fun x hx => by
        obtain ⟨i, hi, rfl⟩ := List.mem_map.mp hx
        exact ⟨i, List.mem_range.mp hi, rfl⟩
      obtain ⟨i, hi, rfl⟩ := hm d (by rw [e]; simp)
      have hp : (pre.flatMap (rowD n)).length ≤ pre.length * n.toNat := rows_len n pre fun x hx => let ⟨i, _, e2⟩ := hm x (by rw [e]; simp [hx]); ⟨i, e2⟩
      have hpl : pre.length ≤ 100 := by
        have := congrArg List.length e
        simp at this
        omega
      have hlen : (pre.flatMap (rowD n)).length ≤ 10000 := by
        have h2 : pre.length * n.toNat ≤ 100 * 100 := Nat.mul_le_mul hpl (by omega)
        exact Nat.le_trans hp h2
      clear hp hpl e
      have e0 : (0 : Int) + (i : Int) = (i : Int) := by omega
      rw [e0]
      refine ⟨[.val (.int n), .val (.lst (pre.flatMap (rowD n))), .val (.int (i : Int)), .un], _, rfl, row_step n (i : Int) _ h0 h (by omega) (by omega) hlen, .val (.int (i : Int)), ?_⟩
      · rw [List.flatMap_append, List.flatMap_cons, List.flatMap_nil, List.append_nil]
        rfl)
  rw [h1]
  subst h2
  simp [pairsI, List.flatMap_map, List.map_flatMap, rowD]
def nearD (p : Int) : D → List D
  | .tup [.int a, .int b] => if a = p then [.int b] else if b = p then [.int a] else []
  | _ => []
theorem nearD_I (p : Int) : ∀ ts : List (Int × Int), (ts.map tieD).flatMap (nearD p) = (nearI ts p).map D.int
  | [] => rfl
  | t :: ts => by
    rw [List.map_cons, List.flatMap_cons, nearD_I p ts]
    unfold nearI
    rw [List.filter_cons]
    by_cases h1 : t.1 = p
    · have e : p + t.2 - p = t.2 := by omega
      simp [nearD, nearB, h1, e]
    · by_cases h2 : t.2 = p
      · have e : t.1 + p - p = t.1 := by omega
        simp [nearD, nearB, h1, h2, e]
      · simp [nearD, nearB, h1, h2]
theorem nears_len (p : Int) : ∀ pre : List D, (pre.flatMap (nearD p)).length ≤ pre.length
  | [] => by simp
  | d :: r => by
    have ih := nears_len p r
    rw [List.flatMap_cons, List.length_append, List.length_cons]
    have e : (nearD p d).length ≤ 1 := by
      unfold nearD
      split
      · split
        · simp
        · split <;> simp
      · simp
    omega
theorem law_near_eq (n : Int) (ts : List (Int × Int)) (p : Int) (hl : ts.length ≤ 10000) : m__law_near [.val (webD n ts), .val (.int p)] = .ok (.lst (sI (nearI ts p))) [.val (webD n ts), .val (.int p)] := by
  unfold m__law_near
  rw [show ∀ fb, mOf 2 5 fb [.val (webD n ts), .val (.int p)] = _ from fun fb => mOf_eq rfl]
  simp [b__law_near, storeL]
  rw [sFor_of (ds := ts.map tieD) (ρ1 := [.val (webD n ts), .val (.int p), .val (.lst []), .un, .un]) (by simp)]
  obtain ⟨ρ', h1, s, s2, h2⟩ := forL (ds := ts.map tieD) (tg := gTupD [3, 4]) (ρ := [.val (webD n ts), .val (.int p), .val (.lst []), .un, .un])
    (fb := sSet 2 (eBin addD (eName 2) (eIf (tBl (eBin eqD (eName 3) (eName 1))) (eLst (aCons (eName 4) aNil)) (eIf (tBl (eBin eqD (eName 4) (eName 1))) (eLst (aCons (eName 3) aNil)) (eLst aNil)))))
    (fun pre ρ => ∃ s s2, ρ = [.val (webD n ts), .val (.int p), .val (.lst (pre.flatMap (nearD p))), s, s2]) ⟨.un, .un, rfl⟩ (fun pre d post ρ e hI => by
      obtain ⟨s, s2, rfl⟩ := hI
      have hd : d ∈ ts.map tieD := by rw [e]; simp
      obtain ⟨t, _, rfl⟩ := List.mem_map.mp hd
      have hpl : pre.length ≤ ts.length := by
        have := congrArg List.length e
        simp at this
        omega
      have hp := nears_len p pre
      refine ⟨_, [.val (webD n ts), .val (.int p), .val (.lst ((pre ++ [tieD t]).flatMap (nearD p))), .val (.int t.1), .val (.int t.2)], rfl, ?_, _, _, rfl⟩
      have ea : ∀ ys : List D, ys.length ≤ 5 → addD (.lst (pre.flatMap (nearD p))) (.lst ys) = some (.lst (pre.flatMap (nearD p) ++ ys)) := fun ys hy => addD_ll (by omega)
      by_cases c1 : t.1 = p
      · simp [storeL, c1, ea, nearD]
      · by_cases c2 : t.2 = p
        · simp [storeL, c1, c2, ea, nearD]
        · simp [storeL, c1, c2, ea, nearD])
  rw [h1]
  subst h2
  have hl2 : (nearI ts p).length ≤ 16777216 := by
    unfold nearI
    rw [List.length_map]
    have := List.length_filter_le (nearB p) ts
    omega
  simp only [nearD_I]
  simp [sI_sorted _ hl2]
end HD

namespace HD
open PySem PySem.Spec PyProof.Rows L2 EL LamX
theorem ninD_l {d : D} {xs : List D} (h1 : okd 60 d = true) (h2 : okd 60 (.lst xs) = true) : ninD d (.lst xs) = some (.bl (!memd d xs)) := by
  show (if _ then _ else _) = _
  rw [if_pos ⟨h1, h2⟩]
theorem okd_ties (ts : List (Int × Int)) (k : Nat) : okd (k + 2) (.lst (ts.map tieD)) = true := by
  rw [okd_lst, List.all_eq_true]
  intro d hd
  obtain ⟨t, _, rfl⟩ := List.mem_map.mp hd
  simp
theorem mem_okN (n : Int) : ninD (.int n) (.lst [.int 4, .int 6, .int 8, .int 10]) = some (.bl (!okN n)) := by
  rw [ninD_l (by simp) (by simp)]
  have e : ∀ i j : Int, eqd (.int i) (.int j) = decide (i = j) := fun i j => rfl
  simp only [memd, List.any_cons, List.any_nil, e, okN, Bool.or_false, Bool.or_assoc]
  congr 4 <;> simp [eq_comm]
def boolB : D → Bool
  | .bl _ => true
  | _ => false
theorem eqd_tie (t : Int × Int) (x y : D) : eqd (tieD t) (.tup [x, y]) = (eqd (.int t.1) x && eqd (.int t.2) y) := by
  show (PyData.eqv (.int t.1) (toP x) && (PyData.eqv (.int t.2) (toP y) && true)) = _
  rw [Bool.and_true]
  rfl
theorem eqd_int_int (i j : Int) : eqd (.int i) (.int j) = decide (i = j) := by
  rfl
theorem eqd_int_not {i : Int} {x : D} (h1 : ∀ j, x ≠ .int j) (h2 : boolB x = false) (h3 : typed x = true) : eqd (.int i) x = false := by
  cases x with
  | int j => exact absurd rfl (h1 j)
  | bl => cases h2
  | ins => cases h3
  | ref => cases h3
  | _ => simp [eqd, toP, PyData.eqv]
/-- the law's look at a tie -/
theorem mem_tie {n : Int} {x y : D} (hx : typed x = true) (hy : typed y = true) (bx : boolB x = false) (by_ : boolB y = false) : memd (.tup [x, y]) ((pairsI n).map tieD) = tieB n (.tup [x, y]) := by
  rw [Bool.eq_iff_iff]
  unfold memd
  rw [List.any_eq_true]
  constructor
  · rintro ⟨z, hz, e⟩
    obtain ⟨t, ht, rfl⟩ := List.mem_map.mp hz
    rw [eqd_tie, Bool.and_eq_true] at e
    have ix : ∃ i, x = .int i := Classical.byContradiction fun c => by
      rw [eqd_int_not (fun j e => c ⟨j, e⟩) bx hx] at e
      cases e.1
    have iy : ∃ i, y = .int i := Classical.byContradiction fun c => by
      rw [eqd_int_not (fun j e => c ⟨j, e⟩) by_ hy] at e
      cases e.2
    obtain ⟨i, rfl⟩ := ix
    obtain ⟨j, rfl⟩ := iy
    rw [eqd_int_int, eqd_int_int, decide_eq_true_eq, decide_eq_true_eq] at e
    have := mem_pairsI.mp ht
    simp [tieB]
    omega
  · intro h
    have h2 := tieB_of h
    unfold tieB at h
    split at h
    · rename_i a b e
      cases e
      simp at h
      exact ⟨tieD (a, b), List.mem_map.mpr ⟨(a, b), mem_pairsI.mpr (by simp; omega), rfl⟩, by rw [eqd_tie, eqd_int_int, eqd_int_int]; simp⟩
    · cases h
end HD

namespace HD
open PySem PySem.Spec PyProof.Rows L2 EL LamX
abbrev fbTie : EL.Env → SO := (sSeq (sIf (tOrB (tNotB (tTru (eIsi "tuple" (eName 2)))) (tOrB (tBl (eBin neD (eCallV lenD (aCons (eName 2) aNil)) (eK (.int 2)))) (tBl (eBin ninD (eName 2) (eName 1)))))
 (sRet (eK (.bl false)))
 SO.next)
 (sIf (tOrB (tTru (eIsi "bool" (eBin ixD (eName 2) (eK (.int 0))))) (tTru (eIsi "bool" (eBin ixD (eName 2) (eK (.int 1))))))
 (sRet (eK (.bl false)))
 SO.next))
theorem isi_bool (d : D) (h : typed d = true) : isiD "bool" d = some (.bl (boolB d)) := by
  cases d <;> first | rfl | cases h
theorem tie_turn (n : Int) (V d : D) (s : EL.Slot) (h : okd 58 d = true) : fbTie [.val V, .val (.lst ((pairsI n).map tieD)), .val d, s] = if tieB n d = true then .next [.val V, .val (.lst ((pairsI n).map tieD)), .val d, s] else .ret (.val (.bl false)) [.val V, .val (.lst ((pairsI n).map tieD)), .val d, s] := by
  have hm : ninD d (.lst ((pairsI n).map tieD)) = some (.bl (!memd d ((pairsI n).map tieD))) := ninD_l (okd_mono 58 60 d (by omega) h) (okd_ties _ 58)
  cases d with
  | ins => cases h
  | ref => cases h
  | tup xs =>
    have hx := all_typed (n := 57) h
    match xs, h, hx, hm with
    | [], _, _, _ => simp [tieB]
    | [x], _, _, _ => simp [tieB]
    | x :: y :: z :: r, _, _, _ =>
      have e : ¬ ((r.length : Int) + 1 + 1 + 1 = 2) := by omega
      simp [tieB, e]
    | [x, y], h, hx, hm =>
      have tx : typed x = true := by simp at hx; exact hx.1
      have ty : typed y = true := by simp at hx; exact hx.2
      cases bx : boolB x with
      | true =>
        have e : tieB n (.tup [x, y]) = false := by cases x <;> first | rfl | cases bx
        cases q : memd (.tup [x, y]) ((pairsI n).map tieD) with
        | false => rw [q] at hm; simp [hm, e]
        | true => rw [q] at hm; simp [hm, e, isi_bool x tx, bx]
      | false =>
        cases by_ : boolB y with
        | true =>
          have e : tieB n (.tup [x, y]) = false := by
            cases y <;> first | (cases x <;> rfl) | cases by_
          cases q : memd (.tup [x, y]) ((pairsI n).map tieD) with
          | false => rw [q] at hm; simp [hm, e]
          | true => rw [q] at hm; simp [hm, e, isi_bool x tx, isi_bool y ty, bx, by_]
        | false =>
          have q := mem_tie (n := n) tx ty bx by_
          rw [q] at hm
          cases q2 : tieB n (.tup [x, y]) with
          | false => rw [q2] at hm; simp [hm]
          | true => rw [q2] at hm; simp [hm, isi_bool x tx, isi_bool y ty, bx, by_]
  | _ => simp [tieB]
theorem ascB_iff : ∀ ts : List (Int × Int), ascB ts = true ↔ Asc ts
  | [] => by simp [ascB]
  | [a] => by simp [ascB]
  | a :: b :: r => by
    show (decide (codeP a < codeP b) && ascB (b :: r)) = true ↔ _
    rw [Bool.and_eq_true, decide_eq_true_eq, ascB_iff (b :: r), Asc, Asc, List.pairwise_cons (a := a)]
    constructor
    · rintro ⟨h1, h2⟩
      refine ⟨fun c hc => ?_, h2⟩
      rw [List.pairwise_cons] at h2
      rcases List.mem_cons.mp hc with rfl | hc
      · exact h1
      · exact Int.lt_trans h1 (h2.1 c hc)
    · rintro ⟨h1, h2⟩
      exact ⟨h1 b List.mem_cons_self, h2⟩
theorem eqd_refl_ties : ∀ ts us : List (Int × Int), eqd (.lst (ts.map tieD)) (.lst (us.map tieD)) = decide (ts = us)
  | [], [] => rfl
  | [], _ :: _ => rfl
  | _ :: _, [] => rfl
  | t :: ts, u :: us => by
    have ih := eqd_refl_ties ts us
    have e : eqd (.lst ((t :: ts).map tieD)) (.lst ((u :: us).map tieD)) = (eqd (tieD t) (tieD u) && eqd (.lst (ts.map tieD)) (.lst (us.map tieD))) := rfl
    rw [e, ih, eqd_tie, eqd_int_int, eqd_int_int, Bool.eq_iff_iff]
    simp [Prod.ext_iff]
end HD

namespace HD
open PySem PySem.Spec PyProof.Rows L2 EL LamX
theorem sorted_ties {ts : List (Int × Int)} {n : Int} (hn : n ≤ 10) (hl : ts.length ≤ 15) (ht : ∀ t ∈ ts, 0 ≤ t.1 ∧ t.1 < t.2 ∧ t.2 < n) : sortSetD (.tup (ts.map tieD)) = some (.lst ((sortP ts).map tieD)) ∧ (ts = sortP ts ↔ ascB ts = true) := by
  have hs : ∀ t ∈ ts, smallP t = true := fun t h => by
    have := ht t h
    rw [smallP_iff]
    omega
  obtain ⟨s1, s2⟩ := sortP_spec hs
  constructor
  · show (pairsOf (ts.map pairD)).bind _ = _
    rw [pairsOf_map hs, Option.bind_some, if_pos (by omega)]
    rfl
  · rw [ascB_iff]
    exact ⟨fun e => by rw [e]; exact s1, fun a => asc_same a s1 fun p => (s2 p).symm⟩
theorem law_is_web_eq (d : D) (h : okd 60 d = true) : m__law_is_web [.val d] = .ok (.bl (webB d)) [.val d] := by
  unfold m__law_is_web
  rw [show ∀ fb, mOf 1 4 fb [.val d] = _ from fun fb => mOf_eq rfl]
  cases d with
  | ins => cases h
  | ref => cases h
  | tup xs =>
    have hx := all_typed h
    match xs, h, hx with
    | [], _, _ => simp [b__law_is_web, webB]
    | [x], _, _ => simp [b__law_is_web, webB]
    | x :: y :: z :: r, _, _ =>
      have e : ¬ ((r.length : Int) + 1 + 1 + 1 = 2) := by omega
      simp [b__law_is_web, webB, e]
    | [x, y], h, hx =>
      have tx : typed x = true := by simp at hx; exact hx.1
      cases y with
      | ins => simp [typed] at hx
      | ref => simp [typed] at hx
      | tup ys =>
        by_cases hl : ys.length ≤ 15
        · have hl2 : ¬ ((15 : Int) < ys.length) := by omega
          cases x with
          | ins => cases tx
          | ref => cases tx
          | int n =>
            have hk := mem_okN n
            cases e2 : okN n with
            | false =>
              rw [e2] at hk
              simp [b__law_is_web, webB, hl2, hk, e2, storeL]
            | true =>
              rw [e2] at hk
              have hn : 4 ≤ n ∧ n ≤ 10 := by
                simp [okN] at e2
                omega
              simp only [okd_tup, List.all_cons, List.all_nil, Bool.and_true, Bool.and_eq_true] at h
              have ho : ys.all (okd 58) = true := h.2
              rw [List.all_eq_true] at ho
              simp [b__law_is_web, hl2, hk, storeL, pairs_eq n (by omega) (by omega)]
              rw [sFor_of (ds := ys) (ρ1 := [.val (.tup [.int n, .tup ys]), .val (.lst ((pairsI n).map tieD)), .un, .un]) (by simp)]
              have lo := forLx (ds := ys) (tg := gSet 2) (fb := fbTie) (ρ := [.val (.tup [.int n, .tup ys]), .val (.lst ((pairsI n).map tieD)), .un, .un])
                (fun pre ρ => pre.all (tieB n) = true ∧ ∃ s, ρ = [.val (.tup [.int n, .tup ys]), .val (.lst ((pairsI n).map tieD)), s, .un])
                (fun r ρ => r = .val (.bl false) ∧ ys.all (tieB n) = false ∧ ∃ s, ρ = [.val (.tup [.int n, .tup ys]), .val (.lst ((pairsI n).map tieD)), s, .un])
                ⟨rfl, .un, rfl⟩ (fun pre d post ρ e hI => by
                  obtain ⟨hp, s, rfl⟩ := hI
                  have hd : d ∈ ys := by rw [e]; simp
                  refine ⟨[.val (.tup [.int n, .tup ys]), .val (.lst ((pairsI n).map tieD)), .val d, .un], rfl, ?_⟩
                  rw [tie_turn n _ d .un (ho d hd)]
                  cases q : tieB n d with
                  | true => exact .inl ⟨_, if_pos rfl, by simp [hp, q], _, rfl⟩
                  | false => exact .inr ⟨_, _, if_neg (by simp), rfl, by rw [e]; simp [q], _, rfl⟩)
              rcases lo with ⟨ρ', h1, qt, s, rfl⟩ | ⟨r, ρ', h1, rfl, qt, s, rfl⟩
              · rw [h1]
                obtain ⟨ey, ht⟩ := ties_of qt
                have ey2 : ∀ ts, ts = ys.map tieOf → ys = ts.map tieD := fun ts e => by rw [e]; exact ey
                generalize hts : ys.map tieOf = ts at ht
                have ey := ey2 ts hts.symm
                have hlt : ts.length ≤ 15 := by rw [← hts, List.length_map]; exact hl
                have ew : webB (.tup [.int n, .tup ys]) = (ascB ts && degB n ts) := by simp [webB, e2, hl, qt, hts]
                rw [ew]
                subst ey
                obtain ⟨hs1, hs2⟩ := sorted_ties hn.2 hlt ht
                have hne : neD (.lst (ts.map tieD)) (.lst ((sortP ts).map tieD)) = some (.bl (!ascB ts)) := by
                  show (if _ then _ else _) = _
                  rw [if_pos ⟨okd_ties ts 58, okd_ties _ 58⟩, eqd_refl_ties]
                  have : decide (ts = sortP ts) = ascB ts := by
                    rw [Bool.eq_iff_iff, decide_eq_true_eq]
                    exact hs2
                  rw [this]
                cases qa : ascB ts with
                | false =>
                  rw [qa] at hne
                  simp [eSortedSet, hs1, hne, listD]
                | true =>
                  rw [qa] at hne
                  simp [eSortedSet, hs1, hne, listD]
                  rw [eCompL_of (ds := (List.range n.toNat).map fun (i : Nat) => D.int (0 + (i : Int))) (ρ1 := [.val (webD n ts), .val (.lst ((pairsI n).map tieD)), s, .un]) (zs := ((List.range n.toNat).filter fun i => !degP ts i).map fun (i : Nat) => D.int (0 + (i : Int))) (ρ2 := [.val (webD n ts), .val (.lst ((pairsI n).map tieD)), s, .un]) ?h5 ?h6]
                  case h5 =>
                    simp [rng1_eq (j := n) (k := n.toNat) rfl (by omega)]
                  case h6 =>
                    exact compPure _ _ (by simp; omega) fun i hi => ⟨[.val (webD n ts), .val (.lst ((pairsI n).map tieD)), s, .val (.int (0 + (i : Int)))], rfl, by
                      have en := law_near_eq n ts (0 + (i : Int)) (by omega)
                      simp only [Int.zero_add] at en
                      have e9 : decide (((nearI ts (i : Int)).length : Int) % 2 = 0) = !degP ts i := by
                        unfold degP
                        rw [Bool.eq_iff_iff]
                        simp
                        omega
                      simp [en, sI_len, e9], fun _ => by simp, rfl⟩
                  have ez : eqD (.lst (((List.range n.toNat).filter fun i => !degP ts i).map fun (i : Nat) => D.int (0 + (i : Int)))) (.lst []) = some (.bl (degB n ts)) := by
                    show (if _ then _ else _) = _
                    rw [if_pos ⟨by rw [okd_lst, List.all_eq_true]; intro d hd; obtain ⟨i, _, rfl⟩ := List.mem_map.mp hd; simp, rfl⟩]
                    congr 2
                    cases q : (List.range n.toNat).filter fun i => !degP ts i with
                    | nil =>
                      rw [List.filter_eq_nil_iff] at q
                      have : degB n ts = true := by
                        unfold degB
                        rw [List.all_eq_true]
                        intro i hi
                        have := q i hi
                        simpa using this
                      rw [this]
                      rfl
                    | cons a r =>
                      have ha : a ∈ (List.range n.toNat).filter fun i => !degP ts i := by rw [q]; exact List.mem_cons_self
                      obtain ⟨h3, h4⟩ := List.mem_filter.mp ha
                      have : degB n ts = false := by
                        rw [Bool.eq_false_iff]
                        intro c
                        unfold degB at c
                        rw [List.all_eq_true] at c
                        have := c a h3
                        rw [this] at h4
                        cases h4
                      rw [this]
                      rfl
                  simp only [Int.zero_add] at ez
                  simp [ez, storeL]
              · rw [h1]
                have ew : webB (.tup [.int n, .tup ys]) = false := by simp [webB, qt]
                simp [ew]
          | _ => simp [b__law_is_web, webB, hl2]
        · have e : webB (.tup [x, .tup ys]) = false := by cases x <;> simp [webB, hl]
          have hl2 : (15 : Int) < ys.length := by omega
          simp [b__law_is_web, hl2, e]
      | _ =>
        have e : ∀ z, (∀ w, z ≠ .tup w) → webB (.tup [x, z]) = false := fun z hz => by
          cases x <;> cases z <;> first | rfl | exact absurd rfl (hz _)
        simp [b__law_is_web, e]
  | _ => simp [b__law_is_web, webB]
end HD

namespace HD
open PySem PySem.Spec PyProof.Rows L2 EL LamX
theorem need_web_eq (d : D) (h : okd 60 d = true) : m_need_web [.val d] = if webB d = true then .ok .non [.val d] else .err "InvalidWeb" [.val d] := by
  unfold m_need_web
  rw [show ∀ fb, mOf 1 1 fb [.val d] = _ from fun fb => mOf_eq rfl]
  cases q : webB d with
  | true => simp [b_need_web, fits_web_eq d h, q]
  | false => simp [b_need_web, fits_web_eq d h, q]
theorem is_web_eq (d : D) (h : okd 60 d = true) : m_is_web [.val d] = .ok (.bl (webB d)) [.val d] := by
  unfold m_is_web
  rw [show ∀ fb, mOf 1 1 fb [.val d] = _ from fun fb => mOf_eq rfl]
  simp [b_is_web, fits_web_eq d h]
theorem web_of {d : D} (h : webB d = true) : ∃ n ts, d = webD n ts ∧ 4 ≤ n ∧ n ≤ 10 ∧ ts.length ≤ 15 ∧ (∀ t ∈ ts, 0 ≤ t.1 ∧ t.1 < t.2 ∧ t.2 < n) ∧ ascB ts = true ∧ degB n ts = true := by
  unfold webB at h
  split at h
  · rename_i n ys
    simp only [Bool.and_eq_true, decide_eq_true_eq] at h
    obtain ⟨⟨⟨⟨h1, h2⟩, h3⟩, h4⟩, h5⟩ := h
    obtain ⟨ey, ht⟩ := ties_of h3
    refine ⟨n, ys.map tieOf, by rw [webD, ← ey], ?_, ?_, by rw [List.length_map]; exact h2, ht, h4, h5⟩
    · simp [okN] at h1; omega
    · simp [okN] at h1; omega
  · cases h
def threeP (ts : List (Int × Int)) (p : Nat) : Bool := decide (((nearI ts (p : Int)).length : Int) = 3)
def threesB (n : Int) (ts : List (Int × Int)) : Bool := (List.range n.toNat).all (threeP ts)
theorem fits_threes_eq (n : Int) (ts : List (Int × Int)) (hn : 4 ≤ n ∧ n ≤ 10) (hl : ts.length ≤ 100) : m_fits_threes [.val (webD n ts)] = .ok (.bl (threesB n ts)) [.val (webD n ts)] := by
  unfold m_fits_threes
  rw [show ∀ fb, mOf 1 2 fb [.val (webD n ts)] = _ from fun fb => mOf_eq rfl]
  simp [b_fits_threes]
  rw [eCompL_of (ds := (List.range n.toNat).map fun (i : Nat) => D.int (0 + (i : Int))) (ρ1 := [.val (webD n ts), .un]) (zs := (List.range n.toNat).map fun i => .bl (threeP ts i)) (ρ2 := [.val (webD n ts), .un]) ?h5 ?h6]
  case h5 => simp [rng1_eq (j := n) (k := n.toNat) rfl (by omega)]
  case h6 =>
    exact compAll _ (by simp; omega) fun i hi => ⟨[.val (webD n ts), .val (.int (0 + (i : Int)))], rfl, by
      have en := near_eq n ts (0 + (i : Int)) (by omega)
      simp only [Int.zero_add] at en
      simp [en, sI_len, threeP], rfl⟩
  have ed : (List.range n.toNat).all (threeP ts) = threesB n ts := rfl
  simp [allD_map, ed]
end HD

namespace HD
open PySem PySem.Spec PyProof.Rows L2 EL LamX
def threesD (d : D) : Bool := match d with
  | .tup [.int n, .tup ys] => threesB n (ys.map tieOf)
  | _ => false
theorem tieOf_tieD (ts : List (Int × Int)) : (ts.map tieD).map tieOf = ts := by
  rw [List.map_map]
  conv => rhs; rw [← List.map_id ts]
  exact List.map_congr_left fun t _ => rfl
theorem is_of_threes_eq (d : D) (h : okd 60 d = true) : m_is_of_threes [.val d] = if webB d = true then .ok (.bl (threesD d)) [.val d] else .err "InvalidWeb" [.val d] := by
  unfold m_is_of_threes
  rw [show ∀ fb, mOf 1 1 fb [.val d] = _ from fun fb => mOf_eq rfl]
  cases q : webB d with
  | true =>
    obtain ⟨n, ts, rfl, h1, h2, h3, h4, h5, h6⟩ := web_of q
    have e : threesD (webD n ts) = threesB n ts := by
      show threesB n ((ts.map tieD).map tieOf) = _
      rw [tieOf_tieD]
    simp [b_is_of_threes, need_web_eq _ h, q, fits_threes_eq n ts ⟨h1, h2⟩ (by omega), e]
  | false => simp [b_is_of_threes, need_web_eq d h, q]
theorem need_place_eq (n : Int) (ts : List (Int × Int)) (v : D) (hv : typed v = true) : m_need_place [.val (webD n ts), .val v] = if wholeB v 0 (n - 1) = true then .ok .non [.val (webD n ts), .val v] else .err "InvalidPlace" [.val (webD n ts), .val v] := by
  unfold m_need_place
  rw [show ∀ fb, mOf 2 2 fb [.val (webD n ts), .val v] = _ from fun fb => mOf_eq rfl]
  cases q : wholeB v 0 (n - 1) with
  | true => simp [b_need_place, is_whole_eq v _ _ hv, q]
  | false => simp [b_need_place, is_whole_eq v _ _ hv, q]
theorem tied_bad (d v : D) (h : okd 60 d = true) (hw : webB d = false) : m_tied [.val d, .val v] = .err "InvalidWeb" [.val d, .val v] := by
  unfold m_tied
  rw [show ∀ fb, mOf 2 2 fb [.val d, .val v] = _ from fun fb => mOf_eq rfl]
  simp [b_tied, need_web_eq d h, hw]
theorem tied_off (n : Int) (ts : List (Int × Int)) (v : D) (h : okd 60 (webD n ts) = true) (hw : webB (webD n ts) = true) (hv : typed v = true) (hq : wholeB v 0 (n - 1) = false) : m_tied [.val (webD n ts), .val v] = .err "InvalidPlace" [.val (webD n ts), .val v] := by
  unfold m_tied
  rw [show ∀ fb, mOf 2 2 fb [.val (webD n ts), .val v] = _ from fun fb => mOf_eq rfl]
  simp [b_tied, need_web_eq _ h, hw, need_place_eq n ts v hv, hq]
theorem tied_eq (n : Int) (ts : List (Int × Int)) (p : Int) (h : okd 60 (webD n ts) = true) (hw : webB (webD n ts) = true) (hl : ts.length ≤ 15) (hq : 0 ≤ p ∧ p < n) : m_tied [.val (webD n ts), .val (.int p)] = .ok (.lst (sI (nearI ts p))) [.val (webD n ts), .val (.int p)] := by
  unfold m_tied
  rw [show ∀ fb, mOf 2 2 fb [.val (webD n ts), .val (.int p)] = _ from fun fb => mOf_eq rfl]
  have hq2 : wholeB (.int p) 0 (n - 1) = true := by
    simp [wholeB]
    omega
  simp [b_tied, need_web_eq _ h, hw, need_place_eq n ts (.int p) rfl, hq2, near_eq n ts p (by omega)]
theorem judged_ok (d : D) (h : okd 60 d = true) : m__law_judged [.val d] = .ok (.bl true) [.val d] := by
  unfold m__law_judged
  rw [show ∀ fb, mOf 1 3 fb [.val d] = _ from fun fb => mOf_eq rfl]
  have hne : ∀ b : Bool, neD (.bl b) (.bl b) = some (.bl false) := fun b => by cases b <;> rfl
  cases q : webB d with
  | true =>
    obtain ⟨n, ts, rfl, h1, h2, h3, h4, h5, h6⟩ := web_of q
    have e0 : eqD (.lst [.str "", .str ""]) (.lst [.str "", .str ""]) = some (.bl true) := by kernel_rfl
    simp [b__law_judged, law_is_web_eq _ h, is_web_eq _ h, hne, q, is_of_threes_eq _ h, tied_eq n ts 0 h q h3 (by omega), eErr, storeL, appO, mAnsw, mulD, mulL, List.replicate, e0]
  | false =>
    have e0 : eqD (.lst [.str "web value", .str "web value"]) (.lst [.str "web value", .str "web value"]) = some (.bl true) := by kernel_rfl
    have e1 : nmOf "InvalidWeb" = some "web value" := by kernel_rfl
    simp [b__law_judged, law_is_web_eq _ h, is_web_eq _ h, hne, q, is_of_threes_eq _ h, tied_bad _ _ h q, eErr, storeL, appO, mAnsw, mulD, mulL, List.replicate, e0, e1]
end HD

namespace HD
open PySem PySem.Spec PyProof.Rows L2 EL LamX
theorem strOk_of (s : String) : PyData.strOk (Str.ofString s) = true := by
  rw [Str.ofString_eq_toList]
  unfold PyData.strOk
  simp only [List.all_toArray, List.all_map, List.all_eq_true, Function.comp, decide_eq_true_eq]
  intro c _
  have := c.valid
  rcases this with h | h
  · exact Nat.lt_trans h (by decide)
  · exact h.2
theorem some_ok (a b : Int) (xs : List D) (d : D) (hd : d = .lst xs ∨ d = .tup xs) (h0 : xs ≠ []) (hl : xs.length < 1000000) : ∃ x a' b', m__law_some [drS a b, .val d] = .ok x [drS a' b', .val d] ∧ x ∈ xs := by
  have hp : 0 < xs.length := List.length_pos_iff.mpr h0
  obtain ⟨j, a', b', e, h1, h2⟩ := roll_ok a b xs.length (by omega) (by omega)
  unfold m__law_some
  rw [show ∀ fb, mOf 2 2 fb [drS a b, .val d] = _ from fun fb => mOf_eq rfl]
  have ha : atI xs j = some (xs[j.toNat]'(by omega)) := atI_nat (by omega) (by omega)
  refine ⟨xs[j.toNat]'(by omega), a', b', ?_, List.getElem_mem _⟩
  rcases hd with rfl | rfl
  · simp [b__law_some, e, ha]
  · simp [b__law_some, e, ha]
/-- values of a bounded depth, with bounded numbers -/
def leafG (b : Nat) : D → Bool
  | .non => true
  | .bl _ => true
  | .int i => decide (i.natAbs ≤ 10 ^ 31 + b)
  | .str x => PyData.strOk x
  | _ => false
def gd : Nat → Nat → D → Bool
  | 0, b, d => leafG b d
  | k + 1, b, d => match d with
    | .tup xs => decide (xs.length ≤ 100 + b) && xs.all (gd k b)
    | .lst xs => decide (xs.length ≤ 100 + b) && xs.all (gd k b)
    | d => leafG b d
theorem gd_tup (k b : Nat) (xs : List D) : gd (k + 1) b (.tup xs) = (decide (xs.length ≤ 100 + b) && xs.all (gd k b)) := rfl
theorem gd_lst (k b : Nat) (xs : List D) : gd (k + 1) b (.lst xs) = (decide (xs.length ≤ 100 + b) && xs.all (gd k b)) := rfl
theorem leaf_gd {k b : Nat} {d : D} (h : leafG b d = true) : gd k b d = true := by
  cases k with
  | zero => exact h
  | succ k => cases d <;> first | exact h | cases h
theorem leaf_mono {b c : Nat} {d : D} (h : b ≤ c) (q : leafG b d = true) : leafG c d = true := by
  cases d <;> first | rfl | exact q | cases q | (simp [leafG] at q ⊢; omega)
theorem gd_mono : ∀ {k l b c : Nat} {d : D}, k ≤ l → b ≤ c → gd k b d = true → gd l c d = true
  | 0, l, b, c, d, _, h2, h => leaf_gd (leaf_mono h2 h)
  | k + 1, 0, _, _, _, h1, _, _ => absurd h1 (by omega)
  | k + 1, l + 1, b, c, d, h1, h2, h => by
    cases d with
    | tup xs =>
      rw [gd_tup, Bool.and_eq_true, List.all_eq_true, decide_eq_true_eq] at h ⊢
      exact ⟨by omega, fun x hx => gd_mono (by omega) h2 (h.2 x hx)⟩
    | lst xs =>
      rw [gd_lst, Bool.and_eq_true, List.all_eq_true, decide_eq_true_eq] at h ⊢
      exact ⟨by omega, fun x hx => gd_mono (by omega) h2 (h.2 x hx)⟩
    | _ => exact leaf_gd (leaf_mono h2 (show leafG b _ = true from h))
theorem gd_okd : ∀ {k b : Nat} {d : D}, gd k b d = true → okd k d = true
  | 0, b, d, h => by cases d <;> first | rfl | exact h | cases h
  | k + 1, b, d, h => by
    cases d with
    | tup xs =>
      rw [gd_tup, Bool.and_eq_true, List.all_eq_true] at h
      rw [okd_tup, List.all_eq_true]
      exact fun x hx => gd_okd (h.2 x hx)
    | lst xs =>
      rw [gd_lst, Bool.and_eq_true, List.all_eq_true] at h
      rw [okd_lst, List.all_eq_true]
      exact fun x hx => gd_okd (h.2 x hx)
    | ins => cases h
    | ref => cases h
    | _ => first | rfl | exact h
def oddL : List D := [.non, .bl true, .bl false, .int 0, .int 1, .int 2, .int 4, .int 6, .int 11, .int (-1), .int (10 ^ 30), .str "", .str "0-1", .tup [], .lst [], .tup [.int 0, .int 1], .tup [.int 1, .int 0], .tup [.int 0, .int 1, .int 2, .int 3], .tup [.tup [.int 0, .int 1]], .tup [.int 4, .tup [.tup [.int 0, .int 1], .tup [.int 2, .int 3]]], .tup [.int 4, .tup []], .tup [.int 0, .int 1, .int 2, .int 2, .int 1, .int 0], .tup [.int 0, .int 1, .int 3, .int 2]]
theorem oddL_gd : ∀ d ∈ oddL, gd 3 0 d = true := by
  have : oddL.all (gd 3 0) = true := by decide +kernel
  exact List.all_eq_true.mp this
theorem odd_eq (r : List EL.Slot → FR) (a b d : Int) : mOf 2 5 (b__law_odd r) [drS a b, .val (.int d)] = frOf [drS a b, .val (.int d)] ((sSeq (sIf (tOrB (tBl (eBin eqD (eName 1) (eK (.int 0)))) (tBl (eBin ltD (eNew (nCall m__law_roll (aCons (eName 0) (aCons (eK (.int 8)) aNil)))) (eK (.int 5)))))
 (sRet (eNew (nCall m__law_some (aCons (eName 0) (aCons (eName 2) aNil)))))
 SO.next)
 (sSeq (sSet 3 (eFresh (eCompL (iRng rng1 (aCons (eNew (nCall m__law_roll (aCons (eName 0) (aCons (eK (.int 5)) aNil)))) aNil)) [4] (gSet 4) tYesB (eNew (nCall r (aCons (eName 0) (aCons (eBin subD (eName 1) (eK (.int 1))) aNil)))))))
 (sRet (eIf (tBl (eBin eqD (eNew (nCall m__law_roll (aCons (eName 0) (aCons (eK (.int 3)) aNil)))) (eK (.int 0)))) (eName 3) (eCallV tupleD (aCons (eName 3) aNil)))))) [drS a b, .val (.int d), .val (.lst oddL), .un, .un]) := by
  kernel_rfl
theorem odd_ok : ∀ (k : Nat) (d : Nat) (a b : Int), d < k → ∃ v a' b', m__law_odd k [drS a b, .val (.int d)] = .ok v [drS a' b', .val (.int d)] ∧ gd (3 + d) 0 v = true
  | 0, d, a, b, h => by omega
  | k + 1, d, a, b, h => by
    show ∃ v a' b', mOf 2 5 (b__law_odd (m__law_odd k)) [drS a b, .val (.int d)] = _ ∧ _
    rw [odd_eq]
    by_cases h0 : d = 0
    · subst h0
      obtain ⟨x, a', b', e, hx⟩ := some_ok a b oddL _ (.inl rfl) (by simp [oddL]) (by simp [oddL])
      exact ⟨x, a', b', by simp [e], gd_mono (by omega) (Nat.le_refl _) (oddL_gd x hx)⟩
    · have h0' : ¬ ((d : Int) = 0) := by omega
      obtain ⟨j, a1, b1, e1, _, _⟩ := roll_ok a b 8 (by omega) (by omega)
      by_cases hj : j < 5
      · obtain ⟨x, a', b', e, hx⟩ := some_ok a1 b1 oddL _ (.inl rfl) (by simp [oddL]) (by simp [oddL])
        exact ⟨x, a', b', by simp [e, e1, h0, hj], gd_mono (by omega) (Nat.le_refl _) (oddL_gd x hx)⟩
      · obtain ⟨j2, a2, b2, e2, h2, h3⟩ := roll_ok a1 b1 5 (by omega) (by omega)
        have er := rng1_eq (j := j2) (k := j2.toNat) rfl (by omega)
        obtain ⟨zs, ρ', hc, hz⟩ := compL (ds := (List.range j2.toNat).map fun (i : Nat) => D.int (0 + (i : Int))) (vs := [4]) (tg := gSet 4) (ft := tYesB) (fe := eNew (nCall (m__law_odd k) (aCons (eName 0) (aCons (eBin subD (eName 1) (eK (.int 1))) aNil))))
          (ρ := [drS a2 b2, .val (.int d), .val (.lst oddL), .un, .un]) (by simp; omega) (fun pre acc ρ => acc.length = pre.length ∧ (∀ z ∈ acc, gd (3 + (d - 1)) 0 z = true) ∧ ∃ a' b', ρ = [drS a' b', .val (.int d), .val (.lst oddL), .un, .un]) ⟨rfl, by simp, _, _, rfl⟩ (fun pre x post acc ρ e hI => by
            obtain ⟨i1, i2, a', b', rfl⟩ := hI
            obtain ⟨v, a3, b3, e3, g3⟩ := odd_ok k (d - 1) a' b' (by omega)
            have ed : (((d - 1 : Nat)) : Int) = (d : Int) - 1 := by omega
            rw [ed] at e3
            refine ⟨_, rfl, .inr ⟨_, v, [drS a3 b3, .val (.int d), .val (.lst oddL), .un, .val x], rfl, by simp [e3], by simp [i1], fun z hz => ?_, a3, b3, rfl⟩⟩
            rcases List.mem_append.mp hz with hz | hz
            · exact i2 z hz
            · simp at hz; rw [hz]; exact g3)
        obtain ⟨z1, z2, a3, b3, rfl⟩ := hz
        have hcc := eCompL_of (fi := iRng rng1 (aCons (eNew (nCall m__law_roll (aCons (eName 0) (aCons (eK (.int 5)) aNil)))) aNil)) (ρ := [drS a1 b1, .val (.int d), .val (.lst oddL), .un, .un]) (ρ1 := [drS a2 b2, .val (.int d), .val (.lst oddL), .un, .un]) (by simp [e2, er]) hc
        obtain ⟨j4, a4, b4, e4, _, _⟩ := roll_ok a3 b3 3 (by omega) (by omega)
        have hz100 : zs.length ≤ 100 := by rw [z1]; simp; omega
        have hg : ∀ z ∈ zs, gd (2 + d) 0 z = true := fun z hz => gd_mono (by omega) (Nat.le_refl _) (z2 z hz)
        have ek : 3 + d = (2 + d) + 1 := by omega
        by_cases h4 : j4 = 0
        · refine ⟨.lst zs, a4, b4, by simp [e1, h0, hj, hcc, e4, h4], ?_⟩
          rw [ek, gd_lst, Bool.and_eq_true, List.all_eq_true, decide_eq_true_eq]
          exact ⟨by omega, hg⟩
        · refine ⟨.tup zs, a4, b4, by simp [e1, h0, hj, hcc, e4, h4, tupleD], ?_⟩
          rw [ek, gd_tup, Bool.and_eq_true, List.all_eq_true, decide_eq_true_eq]
          exact ⟨by omega, hg⟩
end HD

namespace HD
open PySem PySem.Spec PyProof.Rows L2 EL LamX
abbrev nearS : EL.Env → SO := (sSeq (sSet 2 (eLst (aCons (eNew (nCall (m__law_odd 3) (aCons (eName 0) (aCons (eK (.int 1)) aNil)))) (aCons (eNew (nCall (m__law_odd 3) (aCons (eName 0) (aCons (eK (.int 1)) aNil)))) aNil))))
 (sSeq (sIf (tTru (eIsi "int" (eName 1)))
 (sSet 2 (eBin addD (eName 2) (eLst (aCons (eBin addD (eName 1) (eK (.int 1))) (aCons (eBin subD (eName 1) (eK (.int 1))) (aCons (eBin addD (eName 1) (eK (.int 1))) (aCons (eBin subD (eName 1) (eK (.int 1))) (aCons (eNot (eName 1)) (aCons (eCallV strD (aCons (eName 1) aNil)) aNil)))))))))
 SO.next)
 (sRet (eNew (nCall m__law_some (aCons (eName 0) (aCons (eName 2) aNil)))))))
abbrev restS (r : List EL.Slot → FR) : EL.Env → SO := (sSeq (sPar 3 4 (nEv (eNew (nCall m__law_roll (aCons (eName 0) (aCons (eCallV lenD (aCons (eName 1) aNil)) aNil))))) (nEv (eNew (nCall m__law_roll (aCons (eName 0) (aCons (eK (.int 9)) aNil))))))
 (sSeq (sIf (tBl (eBin eqD (eName 4) (eK (.int 0))))
 (sRet (eBin addD (eSl (eName 1) poNone (poSome (eName 3))) (eSl (eName 1) (poSome (eBin addD (eName 3) (eK (.int 1)))) poNone)))
 SO.next)
 (sSeq (sIf (tBl (eBin eqD (eName 4) (eK (.int 1))))
 (sRet (eBin addD (eSl (eName 1) poNone (poSome (eBin addD (eName 3) (eK (.int 1))))) (eSl (eName 1) (poSome (eName 3)) poNone)))
 SO.next)
 (sSeq (sIf (tBl (eBin eqD (eName 4) (eK (.int 2))))
 (sRet (eRev (eName 1)))
 SO.next)
 (sSeq (sIf (tBl (eBin eqD (eName 4) (eK (.int 3))))
 (sRet (eCallV listD (aCons (eName 1) aNil)))
 SO.next)
 (sRet (eBin addD (eBin addD (eSl (eName 1) poNone (poSome (eName 3))) (eTup (aCons (eNew (nCall r (aCons (eName 0) (aCons (eBin ixD (eName 1) (eName 3)) aNil)))) aNil))) (eSl (eName 1) (poSome (eBin addD (eName 3) (eK (.int 1)))) poNone))))))))
theorem bent_code (r : List EL.Slot → FR) : b__law_bent r = sSeq (sIf (tOrB (tNotB (tTru (eIsi "tuple" (eName 1)))) (tOrB (tBl (eBin eqD (eName 1) (eTup aNil))) (tBl (eBin eqD (eNew (nCall m__law_roll (aCons (eName 0) (aCons (eK (.int 7)) aNil)))) (eK (.int 0)))))) nearS SO.next) (restS r) := rfl
theorem log_le {i : Int} {b : Nat} (h : i.natAbs ≤ 10 ^ 31 + b) (hb : b ≤ 100) : i.natAbs.log2 < 1920 := by
  by_cases z : i.natAbs = 0
  · rw [z]; decide
  · rw [Nat.log2_lt z]
    have : (10 : Nat) ^ 31 + 100 < 2 ^ 1920 := by decide +kernel
    omega
theorem near_ok (k b : Nat) (hb : b ≤ 99) (a c : Int) (d : D) (h : gd k b d = true) : ∃ v a' c' S, nearS [drS a c, .val d, .un, .un, .un] = .ret (.val v) [drS a' c', .val d, S, .un, .un] ∧ gd (k + 4) (b + 1) v = true := by
  obtain ⟨v1, a1, c1, e1, g1⟩ := odd_ok 3 1 a c (by omega)
  obtain ⟨v2, a2, c2, e2, g2⟩ := odd_ok 3 1 a1 c1 (by omega)
  have e1 : m__law_odd 3 [drS a c, .val (.int 1)] = .ok v1 [drS a1 c1, .val (.int 1)] := e1
  have e2 : m__law_odd 3 [drS a1 c1, .val (.int 1)] = .ok v2 [drS a2 c2, .val (.int 1)] := e2
  have hg : ∀ x ∈ [v1, v2], gd (k + 4) (b + 1) x = true := by
    intro x hx
    simp at hx
    rcases hx with rfl | rfl
    · exact gd_mono (by omega) (by omega) g1
    · exact gd_mono (by omega) (by omega) g2
  have plain : isiD "int" d = some (.bl false) → ∃ v a' c' S, nearS [drS a c, .val d, .un, .un, .un] = .ret (.val v) [drS a' c', .val d, S, .un, .un] ∧ gd (k + 4) (b + 1) v = true := fun hi => by
    obtain ⟨x, a3, c3, e3, hx⟩ := some_ok a2 c2 [v1, v2] _ (.inl rfl) (by simp) (by simp)
    exact ⟨x, a3, c3, .val (.lst [v1, v2]), by simp [e1, e2, e3, hi, storeL], hg x hx⟩
  cases d with
  | non => exact plain rfl
  | str => exact plain rfl
  | tup => exact plain rfl
  | lst => exact plain rfl
  | ins => cases k <;> cases h
  | ref => cases k <;> cases h
  | bl q =>
    have es : strD [.bl q] = some (.str (if q then "True" else "False")) := rfl
    have ea : addD (.bl q) (.int 1) = some (.int (b2i q + 1)) := rfl
    have eu : subD (.bl q) (.int 1) = some (.int (b2i q - 1)) := rfl
    have eL : addD (.lst [v1, v2]) (.lst [.int (b2i q + 1), .int (b2i q - 1), .int (b2i q + 1), .int (b2i q - 1), .bl (!q), .str (if q then "True" else "False")]) = some (.lst [v1, v2, .int (b2i q + 1), .int (b2i q - 1), .int (b2i q + 1), .int (b2i q - 1), .bl (!q), .str (if q then "True" else "False")]) := addD_ll (by simp)
    obtain ⟨x, a3, c3, e3, hx⟩ := some_ok a2 c2 [v1, v2, .int (b2i q + 1), .int (b2i q - 1), .int (b2i q + 1), .int (b2i q - 1), .bl (!q), .str (if q then "True" else "False")] _ (.inl rfl) (by simp) (by simp)
    refine ⟨x, a3, c3, _, by simp [e1, e2, e3, storeL, es, ea, eu, eL]; rfl, ?_⟩
    simp only [List.mem_cons, List.not_mem_nil, or_false] at hx
    rcases hx with rfl | rfl | rfl | rfl | rfl | rfl | rfl | rfl
    · exact hg _ (by simp)
    · exact hg _ (by simp)
    all_goals exact leaf_gd (by cases q <;> first | exact strOk_of _ | (simp [leafG, b2i]; omega) | rfl)
  | int i =>
    have hl : leafG b (.int i) = true := by cases k <;> exact h
    simp only [leafG, decide_eq_true_eq] at hl
    obtain ⟨S, hS, es⟩ : ∃ S, PyData.strOk S = true ∧ strD [.int i] = some (.str S) := ⟨toString i, strOk_of _, by
      show (if i.natAbs.log2 < 1920 then some (D.str (toString i)) else none) = _
      rw [if_pos (log_le hl (by omega))]⟩
    obtain ⟨q, et⟩ : ∃ q, truD (.int i) = some q := ⟨_, rfl⟩
    have eL : addD (.lst [v1, v2]) (.lst [.int (i + 1), .int (i - 1), .int (i + 1), .int (i - 1), .bl (!q), .str S]) = some (.lst [v1, v2, .int (i + 1), .int (i - 1), .int (i + 1), .int (i - 1), .bl (!q), .str S]) := addD_ll (by simp)
    obtain ⟨x, a3, c3, e3, hx⟩ := some_ok a2 c2 [v1, v2, .int (i + 1), .int (i - 1), .int (i + 1), .int (i - 1), .bl (!q), .str S] _ (.inl rfl) (by simp) (by simp)
    refine ⟨x, a3, c3, .val (.lst [v1, v2, .int (i + 1), .int (i - 1), .int (i + 1), .int (i - 1), .bl (!q), .str S]), by simp [e1, e2, e3, storeL, es, eL, et], ?_⟩
    simp only [List.mem_cons, List.not_mem_nil, or_false] at hx
    rcases hx with rfl | rfl | rfl | rfl | rfl | rfl | rfl | rfl
    · exact hg _ (by simp)
    · exact hg _ (by simp)
    · exact leaf_gd (by simp only [leafG, decide_eq_true_eq]; omega)
    · exact leaf_gd (by simp only [leafG, decide_eq_true_eq]; omega)
    · exact leaf_gd (by simp only [leafG, decide_eq_true_eq]; omega)
    · exact leaf_gd (by simp only [leafG, decide_eq_true_eq]; omega)
    · exact leaf_gd rfl
    · exact leaf_gd hS
end HD

namespace EL
open PySem PySem.Spec PyProof.Rows L2
section
variable (ρ : EL.Env)
@[simp] theorem eRev_e (f : EL.Env → Out Rv) : eRev f ρ = (f ρ).bind fun r ρ1 => Out.of (((deref r ρ1).bind revD).map Rv.val) ρ1 := rfl
@[simp] theorem eRev0_e (f : EL.Env → Out Rv) : eRev0 f ρ = (f ρ).bind fun r ρ1 => Out.of (((deref r ρ1).bind rev0D).map Rv.val) ρ1 := rfl
@[simp] theorem eSortedSet_e (f : EL.Env → Out Rv) : eSortedSet f ρ = (f ρ).bind fun r ρ1 => Out.of (((deref r ρ1).bind sortSetD).map Rv.val) ρ1 := rfl
@[simp] theorem eStr1_e (g : D → D → Option D) (fo fe : EL.Env → Out Rv) : eStr1 g fo fe ρ = (fo ρ).bind fun x ρ1 => match x with
  | .val (.str a) => (fe ρ1).bind fun y ρ2 => ap2 g (.val (.str a)) y ρ2
  | _ => .bad := rfl
@[simp] theorem fRg_e (f : EL.Env → Out Rv) : fRg f ρ = (f ρ).bind fun r ρ1 => Out.of (rgO r) ρ1 := rfl
@[simp] theorem sAsg_e (f : EL.Env → Out Rv) (g : Tg) : sAsg f g ρ = (f ρ).so fun r ρ1 => SO.of (r.store.bind fun d => g d ρ1) := rfl
@[simp] theorem sPar3_e (i j l : Nat) (fr : EL.Env → Out (List Rv)) : sPar3 i j l fr ρ = (fr ρ).so fun rs ρ1 => match storeAll rs with
  | some [a, b, c] => .next (((ρ1.set i (.val a)).set j (.val b)).set l (.val c))
  | _ => .bad := rfl
end
end EL
namespace HD
open PySem PySem.Spec PyProof.Rows L2 EL LamX
theorem cut_lo {α : Type} (xs : List α) {j : Int} (h : 0 ≤ j) : EL.cutD xs none (some j) = xs.take j.toNat := by
  obtain ⟨k, rfl⟩ := Int.eq_ofNat_of_zero_le h
  unfold EL.cutD
  rw [HT.sIx_none]
  simp only [HT.sIx_nat, List.drop_zero, Nat.sub_zero, Int.toNat_natCast]
  by_cases c : k ≤ xs.length
  · rw [Nat.min_eq_left c]
  · rw [Nat.min_eq_right (by omega), List.take_length, List.take_of_length_le (by omega)]
theorem cut_hi {α : Type} (xs : List α) {j : Int} (h : 0 ≤ j) : EL.cutD xs (some j) none = xs.drop j.toNat := by
  obtain ⟨k, rfl⟩ := Int.eq_ofNat_of_zero_le h
  unfold EL.cutD
  rw [HT.sIx_none]
  simp only [HT.sIx_nat, Int.toNat_natCast]
  by_cases c : k ≤ xs.length
  · rw [Nat.min_eq_left c, List.take_of_length_le (by simp)]
  · rw [Nat.min_eq_right (by omega), List.drop_of_length_le (Nat.le_refl _), List.drop_of_length_le (by omega)]; simp
theorem addD_tt {xs ys : List D} (h : xs.length + ys.length ≤ 16777216) : addD (.tup xs) (.tup ys) = some (.tup (xs ++ ys)) := by
  show (if _ then _ else _) = _
  rw [if_pos h]
theorem bent_ok : ∀ (k f b : Nat) (a c : Int) (d : D), k < f → k ≤ 50 → b ≤ 99 → gd k b d = true → ∃ v a' c', m__law_bent f [drS a c, .val d] = .ok v [drS a' c', .val d] ∧ gd (k + 4) (b + 1) v = true
  | k, 0, _, _, _, _, h, _, _, _ => by omega
  | k, f + 1, b, a, c, d, h, hk, hb, hg => by
    show ∃ v a' c', mOf 2 5 (b__law_bent (m__law_bent f)) [drS a c, .val d] = _ ∧ _
    rw [bent_code]
    rw [show ∀ fb, mOf 2 5 fb [drS a c, .val d] = frOf [drS a c, .val d] (fb [drS a c, .val d, .un, .un, .un]) from fun fb => mOf_eq rfl]
    have first : ∀ a1 c1, (sIf (tOrB (tNotB (tTru (eIsi "tuple" (eName 1)))) (tOrB (tBl (eBin eqD (eName 1) (eTup aNil))) (tBl (eBin eqD (eNew (nCall m__law_roll (aCons (eName 0) (aCons (eK (.int 7)) aNil)))) (eK (.int 0)))))) nearS SO.next) [drS a c, .val d, .un, .un, .un] = nearS [drS a1 c1, .val d, .un, .un, .un] →
        ∃ v a' c', frOf [drS a c, .val d] (sSeq (sIf (tOrB (tNotB (tTru (eIsi "tuple" (eName 1)))) (tOrB (tBl (eBin eqD (eName 1) (eTup aNil))) (tBl (eBin eqD (eNew (nCall m__law_roll (aCons (eName 0) (aCons (eK (.int 7)) aNil)))) (eK (.int 0)))))) nearS SO.next) (restS (m__law_bent f)) [drS a c, .val d, .un, .un, .un]) = .ok v [drS a' c', .val d] ∧ gd (k + 4) (b + 1) v = true := fun a1 c1 e => by
      obtain ⟨v, a', c', S, e2, g⟩ := near_ok k b hb a1 c1 d hg
      refine ⟨v, a', c', ?_, g⟩
      rw [sSeq_e, e, e2]
      simp
    have ht : ∀ b : Bool, isiD "tuple" d = some (.bl b) → (tNotB (tTru (eIsi "tuple" (eName 1)))) [drS a c, .val d, .un, .un, .un] = .ok (!b) [drS a c, .val d, .un, .un, .un] := fun b e => by simp [e]
    have hnot : isiD "tuple" d = some (.bl false) → (sIf (tOrB (tNotB (tTru (eIsi "tuple" (eName 1)))) (tOrB (tBl (eBin eqD (eName 1) (eTup aNil))) (tBl (eBin eqD (eNew (nCall m__law_roll (aCons (eName 0) (aCons (eK (.int 7)) aNil)))) (eK (.int 0)))))) nearS SO.next) [drS a c, .val d, .un, .un, .un] = nearS [drS a c, .val d, .un, .un, .un] := fun e => by
      rw [sIf_e, tOrB_e, ht false e]
      rfl
    have plain : isiD "tuple" d = some (.bl false) → _ := fun e => first a c (hnot e)
    cases d with
    | non => exact plain rfl
    | bl => exact plain rfl
    | int => exact plain rfl
    | str => exact plain rfl
    | lst => exact plain rfl
    | ins => cases k <;> cases hg
    | ref => cases k <;> cases hg
    | tup xs =>
      have ho : okd 60 (.tup xs) = true := okd_mono _ _ _ (by omega) (gd_okd hg)
      have heq : eqD (.tup xs) (.tup []) = some (.bl xs.isEmpty) := by
        show (if _ then _ else _) = _
        rw [if_pos ⟨ho, rfl⟩]
        cases xs <;> rfl
      have ht := ht true rfl
      cases xs with
      | nil =>
        refine first a c ?_
        rw [sIf_e, tOrB_e, ht]
        simp only [Bool.not_true, Out.bind_ok, Bool.false_eq_true, if_false, tOrB_e]
        have : tBl (eBin eqD (eName 1) (eTup aNil)) [drS a c, .val (.tup []), .un, .un, .un] = .ok true [drS a c, .val (.tup []), .un, .un, .un] := by simp [storeL, heq]
        rw [this]
        rfl
      | cons x xs =>
        have e3 : tBl (eBin eqD (eName 1) (eTup aNil)) [drS a c, .val (.tup (x :: xs)), .un, .un, .un] = .ok false [drS a c, .val (.tup (x :: xs)), .un, .un, .un] := by simp [storeL, heq]
        obtain ⟨j7, a1, c1, e7, _, _⟩ := roll_ok a c 7 (by omega) (by omega)
        have e4 : tBl (eBin eqD (eNew (nCall m__law_roll (aCons (eName 0) (aCons (eK (.int 7)) aNil)))) (eK (.int 0))) [drS a c, .val (.tup (x :: xs)), .un, .un, .un] = .ok (decide (j7 = 0)) [drS a1 c1, .val (.tup (x :: xs)), .un, .un, .un] := by simp [e7]
        have e5 : (tOrB (tNotB (tTru (eIsi "tuple" (eName 1)))) (tOrB (tBl (eBin eqD (eName 1) (eTup aNil))) (tBl (eBin eqD (eNew (nCall m__law_roll (aCons (eName 0) (aCons (eK (.int 7)) aNil)))) (eK (.int 0)))))) [drS a c, .val (.tup (x :: xs)), .un, .un, .un] = .ok (decide (j7 = 0)) [drS a1 c1, .val (.tup (x :: xs)), .un, .un, .un] := by
          rw [tOrB_e, ht]
          simp only [Bool.not_true, Out.bind_ok, Bool.false_eq_true, if_false, tOrB_e, e3, e4]
        by_cases hj : j7 = 0
        · refine first a1 c1 ?_
          rw [sIf_e, e5]
          simp [hj]
        · have hk0 : k ≠ 0 := fun z => by subst z; cases hg
          obtain ⟨k, rfl⟩ : ∃ m, k = m + 1 := ⟨k - 1, by omega⟩
          rw [gd_tup, Bool.and_eq_true, List.all_eq_true, decide_eq_true_eq] at hg
          obtain ⟨hl, hx⟩ := hg
          obtain ⟨j, a2, c2, e8, h1, h2⟩ := roll_ok a1 c1 (x :: xs).length (by simp) (by omega)
          obtain ⟨w, a3, c3, e9, h3, h4⟩ := roll_ok a2 c2 9 (by omega) (by omega)
          rw [sSeq_e, sIf_e, e5, Out.so_ok, if_neg (by simpa using hj)]
          show ∃ v a' c', frOf _ (restS (m__law_bent f) [drS a1 c1, .val (.tup (x :: xs)), .un, .un, .un]) = _ ∧ _
          generalize hys : x :: xs = ys at *
          have hpar : ∀ rest, sSeq (sPar 3 4 (nEv (eNew (nCall m__law_roll (aCons (eName 0) (aCons (eCallV lenD (aCons (eName 1) aNil)) aNil))))) (nEv (eNew (nCall m__law_roll (aCons (eName 0) (aCons (eK (.int 9)) aNil)))))) rest [drS a1 c1, .val (.tup ys), .un, .un, .un] = rest [drS a3 c3, .val (.tup ys), .un, .val (.int j), .val (.int w)] := fun rest => by
            simp [e8, e9]
          rw [restS, hpar]
          clear hpar
          have t1 := cut_lo ys h1
          have t2 := cut_hi ys (j := j + 1) (by omega)
          have t3 := cut_lo ys (j := j + 1) (by omega)
          have t4 := cut_hi ys h1
          have big : ∀ zs : List D, zs.length ≤ 101 + b → (∀ z ∈ zs, gd (k + 4) (b + 1) z = true) → gd (k + 1 + 4) (b + 1) (.tup zs) = true := fun zs hz hq => by
            show gd (k + 4 + 1) _ _ = true
            rw [gd_tup, Bool.and_eq_true, List.all_eq_true, decide_eq_true_eq]
            exact ⟨by omega, hq⟩
          have hx' : ∀ z ∈ ys, gd (k + 4) (b + 1) z = true := fun z hz => gd_mono (by omega) (by omega) (hx z hz)
          by_cases w0 : w = 0
          · refine ⟨.tup (ys.take j.toNat ++ ys.drop (j + 1).toNat), a3, c3, ?_, big _ (by simp; omega) fun z hz => ?_⟩
            · simp [w0, slD, intO, t1, t2, addD_tt (xs := ys.take j.toNat) (ys := ys.drop (j + 1).toNat) (by simp; omega)]
            · rcases List.mem_append.mp hz with hz | hz
              · exact hx' z (List.mem_of_mem_take hz)
              · exact hx' z (List.mem_of_mem_drop hz)
          · by_cases w1 : w = 1
            · refine ⟨.tup (ys.take (j + 1).toNat ++ ys.drop j.toNat), a3, c3, ?_, big _ (by simp; omega) fun z hz => ?_⟩
              · simp [w1, slD, intO, t3, t4, addD_tt (xs := ys.take (j + 1).toNat) (ys := ys.drop j.toNat) (by simp; omega)]
              · rcases List.mem_append.mp hz with hz | hz
                · exact hx' z (List.mem_of_mem_take hz)
                · exact hx' z (List.mem_of_mem_drop hz)
            · by_cases w2 : w = 2
              · refine ⟨.tup ys.reverse, a3, c3, by simp [w2, revD], big _ (by simp; omega) fun z hz => hx' z (by simpa using hz)⟩
              · by_cases w3 : w = 3
                · refine ⟨.lst ys, a3, c3, by simp [w3, listD], ?_⟩
                  show gd (k + 4 + 1) _ _ = true
                  rw [gd_lst, Bool.and_eq_true, List.all_eq_true, decide_eq_true_eq]
                  exact ⟨by omega, hx'⟩
                · have hat : atI ys j = some (ys[j.toNat]'(by omega)) := atI_nat (by omega) (by omega)
                  obtain ⟨v, a4, c4, e10, g4⟩ := bent_ok k f b a3 c3 (ys[j.toNat]'(by omega)) (by omega) (by omega) hb (hx _ (List.getElem_mem _))
                  refine ⟨.tup (ys.take j.toNat ++ [v] ++ ys.drop (j + 1).toNat), a4, c4, ?_, big _ (by simp; omega) fun z hz => ?_⟩
                  · have q1 := addD_tt (xs := ys.take j.toNat) (ys := [v]) (by simp; omega)
                    have q2 := addD_tt (xs := ys.take j.toNat ++ [v]) (ys := ys.drop (j + 1).toNat) (by simp; omega)
                    simp only [List.append_assoc, List.cons_append, List.nil_append] at q2
                    simp [w0, w1, w2, w3, slD, intO, t1, t2, hat, e10, storeL, q1, q2]
                  · rcases List.mem_append.mp hz with hz | hz
                    · rcases List.mem_append.mp hz with hz | hz
                      · exact hx' z (List.mem_of_mem_take hz)
                      · simp at hz; rw [hz]; exact g4
                    · exact hx' z (List.mem_of_mem_drop hz)
end HD

namespace HD
open PySem PySem.Spec PyProof.Rows L2 EL LamX
/-! ### sorting -/
abbrev dle (x y : D) : Bool := PySem.W.dataLe false toP x y
theorem dle_int (i j : Int) : dle (.int i) (.int j) = decide (i ≤ j) := by
  show (!(decide (j < i) || (!decide (i < j) && false))) = _
  simp
  rw [← decide_not]
  exact decide_eq_decide.mpr (by omega)
theorem dle_tie {t u : Int × Int} (ht : smallP t = true) (hu : smallP u = true) : dle (tieD t) (tieD u) = decide (codeP t ≤ codeP u) := by
  rw [smallP_iff] at ht hu
  show (!(decide ((1:Int) < 1) || (!decide ((1:Int) < 1) && (decide (u.1 < t.1) || (!decide (t.1 < u.1) && (decide ((1:Int) < 1) || (!decide ((1:Int) < 1) && (decide (u.2 < t.2) || (!decide (t.2 < u.2) && (decide ((0:Int) < 0) || (!decide ((0:Int) < 0) && false))))))))))) = _
  unfold codeP
  rw [Bool.eq_iff_iff]
  simp
  omega
theorem dle_tot : PySem.W.TotalLe dle := by
  have h := PySem.W.sortLe_total (PyProof.Rows.listOrd PyProof.Rows.itemOrd) false fun d => PySem.W.keyToks (toP d)
  exact ⟨h.trans, h.total⟩
theorem sortD_of {α : Type} (f : α → D) {xs ys : List α} (hp : ys.Perm xs) (hs : ys.Pairwise fun a b => dle (f a) (f b) = true) (ha : ∀ a ∈ xs, ∀ b ∈ xs, dle (f a) (f b) = true → dle (f b) (f a) = true → f a = f b) : sortD (xs.map f) = ys.map f := by
  have h1 : (sortD (xs.map f)).Perm (ys.map f) := (List.mergeSort_perm _ _).trans (hp.symm.map f)
  have h2 : (sortD (xs.map f)).Pairwise fun a b => dle a b = true := List.pairwise_mergeSort (fun a b c => dle_tot.trans a b c) (fun a b => by rw [Bool.or_eq_true]; exact dle_tot.total a b) _
  have h3 : (ys.map f).Pairwise fun a b => dle a b = true := by rw [List.pairwise_map]; exact hs
  refine h1.eq_of_pairwise (fun a b hA hB k1 k2 => ?_) h2 h3
  obtain ⟨x, hx, rfl⟩ := List.mem_map.mp ((List.mergeSort_perm _ _).mem_iff.mp hA)
  obtain ⟨y, hy, rfl⟩ := List.mem_map.mp hB
  exact ha x hx y (hp.mem_iff.mp hy) k1 k2
theorem okSort_ties (ts : List (Int × Int)) (hl : ts.length ≤ 16777216) : okSort (ts.map tieD) = true := by
  unfold okSort
  simp only [Bool.and_eq_true, Bool.or_eq_true, decide_eq_true_eq, List.all_eq_true, List.length_map]
  refine ⟨⟨⟨fun d hd => ?_, fun d hd e he => ?_⟩, Or.inl fun d hd => ?_⟩, hl⟩
  · obtain ⟨i, _, rfl⟩ := List.mem_map.mp hd
    simp
  · obtain ⟨i, _, rfl⟩ := List.mem_map.mp hd
    obtain ⟨j, _, rfl⟩ := List.mem_map.mp he
    rfl
  · obtain ⟨i, _, rfl⟩ := List.mem_map.mp hd
    rfl
theorem asc_nodup {ts : List (Int × Int)} (h : Asc ts) : ts.Nodup := List.Pairwise.imp (fun h e => by subst e; omega) h
/-- unlike ties sorted -/
theorem sort_ties {n : Int} {ts : List (Int × Int)} (hn : n ≤ 10) (hd : ts.Nodup) (ht : ∀ t ∈ ts, 0 ≤ t.1 ∧ t.1 < t.2 ∧ t.2 < n) (hl : ts.length ≤ 1000) : ∃ us : List (Int × Int), us.Perm ts ∧ Asc us ∧ sortedD [.lst (ts.map tieD)] = some (.lst (us.map tieD)) := by
  have hs : ∀ t ∈ ts, smallP t = true := fun t h => by
    have := ht t h
    rw [smallP_iff]
    omega
  obtain ⟨s1, s2⟩ := sortP_spec hs
  have hp : (sortP ts).Perm ts := by
    rw [List.perm_iff_count]
    intro a
    have n1 : (sortP ts).Nodup := asc_nodup s1
    rw [n1.count, hd.count]
    simp only [s2]
  refine ⟨sortP ts, hp, s1, ?_⟩
  show (if okSort (ts.map tieD) = true then _ else _) = _
  rw [if_pos (okSort_ties ts (by omega))]
  congr 2
  refine sortD_of tieD hp (List.Pairwise.imp_of_mem (fun {a b} ha hb h => ?_) s1) fun a ha b hb k1 k2 => ?_
  · rw [dle_tie (hs a ((s2 a).mp ha)) (hs b ((s2 b).mp hb)), decide_eq_true_eq]
    omega
  · rw [dle_tie (hs a ha) (hs b hb), decide_eq_true_eq] at k1
    rw [dle_tie (hs b hb) (hs a ha), decide_eq_true_eq] at k2
    rw [codeP_inj (hs a ha) (hs b hb) (by omega)]
end HD

namespace HD
open PySem PySem.Spec PyProof.Rows L2 EL LamX
/-- the tie of two places -/
def tie (a b : Int) : Int × Int := if a < b then (a, b) else (b, a)
/-- in how many ties a place is -/
def deg (ts : List (Int × Int)) (p : Int) : Nat := (ts.filter (nearB p)).length
theorem nearI_len (ts : List (Int × Int)) (p : Int) : (nearI ts p).length = deg ts p := by simp [nearI, deg]
@[simp] theorem deg_nil (p : Int) : deg [] p = 0 := rfl
theorem deg_cons (t : Int × Int) (ts : List (Int × Int)) (p : Int) : deg (t :: ts) p = (if nearB p t = true then 1 else 0) + deg ts p := by
  unfold deg
  rw [List.filter_cons]
  split
  · rw [List.length_cons, Nat.add_comm]
  · rw [Nat.zero_add]
theorem deg_append (ts us : List (Int × Int)) (p : Int) : deg (ts ++ us) p = deg ts p + deg us p := by simp [deg, List.filter_append]
theorem deg_perm {ts us : List (Int × Int)} (h : ts.Perm us) (p : Int) : deg ts p = deg us p := (h.filter _).length_eq
theorem nearB_tie (p a b : Int) : nearB p (tie a b) = (decide (a = p) || decide (b = p)) := by
  unfold nearB tie
  split
  · rfl
  · exact Bool.or_comm _ _
theorem tie_comm {a b : Int} : tie a b = tie b a := by
  unfold tie
  by_cases h : a < b
  · rw [if_pos h, if_neg (by omega)]
  · by_cases h2 : b < a
    · rw [if_neg h, if_pos h2]
    · have : a = b := by omega
      subst this; rfl
theorem tie_ok {n a b : Int} (h : a ≠ b) (ha : 0 ≤ a ∧ a < n) (hb : 0 ≤ b ∧ b < n) : 0 ≤ (tie a b).1 ∧ (tie a b).1 < (tie a b).2 ∧ (tie a b).2 < n := by
  unfold tie
  split
  · dsimp; omega
  · dsimp; omega
theorem tie_eq {a b c d : Int} (h : tie a b = tie c d) : (a = c ∧ b = d) ∨ (a = d ∧ b = c) := by
  unfold tie at h
  split at h <;> split at h <;> cases h <;> simp
/-- the ties of a way -/
def chain : List Int → List (Int × Int)
  | a :: b :: r => tie b a :: chain (b :: r)
  | _ => []
theorem chain_near : ∀ {l : List Int} {t : Int × Int}, t ∈ chain l → ∃ a b, a ∈ l ∧ b ∈ l ∧ t = tie b a
  | [], t, h => by cases h
  | [a], t, h => by cases h
  | a :: b :: r, t, h => by
    have h : t ∈ tie b a :: chain (b :: r) := h
    rcases List.mem_cons.mp h with rfl | h
    · exact ⟨a, b, by simp, by simp, rfl⟩
    · obtain ⟨x, y, hx, hy, e⟩ := chain_near h
      exact ⟨x, y, List.mem_cons_of_mem _ hx, List.mem_cons_of_mem _ hy, e⟩
theorem chain_len : ∀ l : List Int, (chain l).length = l.length - 1
  | [] => rfl
  | [a] => rfl
  | a :: b :: r => by
    show (tie b a :: chain (b :: r)).length = _
    rw [List.length_cons, chain_len (b :: r)]
    simp
theorem deg_chain_out {p : Int} {l : List Int} (h : p ∉ l) : deg (chain l) p = 0 := by
  unfold deg
  rw [List.length_eq_zero_iff, List.filter_eq_nil_iff]
  intro t ht
  obtain ⟨a, b, ha, hb, rfl⟩ := chain_near ht
  rw [nearB_tie]
  simp
  exact ⟨fun e => h (e ▸ hb), fun e => h (e ▸ ha)⟩
def ind (c : Prop) [Decidable c] : Nat := if c then 1 else 0
theorem ind_t {c : Prop} [Decidable c] (h : c) : ind c = 1 := if_pos h
theorem ind_f {c : Prop} [Decidable c] (h : ¬ c) : ind c = 0 := if_neg h
/-- along a way each place has two ties, but for its ends -/
theorem deg_chain (p : Int) : ∀ (a : Int) (r : List Int), (a :: r).Nodup → p ∈ a :: r → deg (chain (a :: r)) p + ind (p = a) + ind (p = (a :: r).getLast (by simp)) = 2
  | a, [], hn, hp => by
    have : p = a := by simpa using hp
    subst this
    simp [chain, ind]
  | a, b :: r, hn, hp => by
    have hn2 := List.nodup_cons.mp hn
    have ih := deg_chain p b r hn2.2
    have e : deg (chain (a :: b :: r)) p = ind (b = p ∨ a = p) + deg (chain (b :: r)) p := by
      show deg (tie b a :: chain (b :: r)) p = _
      rw [deg_cons, nearB_tie]
      congr 1
      unfold ind
      simp
    have el : (a :: b :: r).getLast (by simp) = (b :: r).getLast (by simp) := List.getLast_cons (by simp)
    rw [e, el]
    have hab : a ≠ b := fun h => hn2.1 (by rw [h]; simp)
    by_cases h1 : p = a
    · subst h1
      rw [deg_chain_out hn2.1, ind_t (Or.inr rfl), ind_t rfl, ind_f]
      intro h
      exact hn2.1 (h ▸ List.getLast_mem _)
    · have hp2 : p ∈ b :: r := (List.mem_cons.mp hp).resolve_left h1
      have ih := ih hp2
      rw [ind_f h1]
      by_cases h2 : p = b
      · rw [ind_t (Or.inl h2.symm)]
        rw [ind_t h2] at ih
        omega
      · rw [ind_f (by intro h; rcases h with h | h; exact h2 h.symm; exact h1 h.symm)]
        rw [ind_f h2] at ih
        omega
theorem chain_nodup : ∀ l : List Int, l.Nodup → (chain l).Nodup
  | [], _ => List.nodup_nil
  | [a], _ => List.nodup_nil
  | a :: b :: r, hn => by
    have hn2 := List.nodup_cons.mp hn
    show (tie b a :: chain (b :: r)).Nodup
    rw [List.nodup_cons]
    refine ⟨fun h => ?_, chain_nodup _ hn2.2⟩
    obtain ⟨x, y, hx, hy, e⟩ := chain_near h
    rcases tie_eq e with ⟨_, h⟩ | ⟨_, h⟩
    · exact hn2.1 (h ▸ hx)
    · exact hn2.1 (h ▸ hy)
/-- the ties of a round -/
def cyc : List Int → List (Int × Int)
  | [] => []
  | a :: r => tie a ((a :: r).getLast (by simp)) :: chain (a :: r)
theorem cyc_len (l : List Int) : (cyc l).length = l.length := by
  cases l with
  | nil => rfl
  | cons a r =>
    show (_ :: chain (a :: r)).length = _
    rw [List.length_cons, chain_len]
    simp
theorem deg_cyc {l : List Int} {p : Int} (hn : l.Nodup) (h2 : 2 ≤ l.length) (hp : p ∈ l) : deg (cyc l) p = 2 := by
  cases l with
  | nil => cases hp
  | cons a r =>
    have h := deg_chain p a r hn hp
    have hal : a ≠ (a :: r).getLast (by simp) := fun e => by
      cases r with
      | nil => simp at h2
      | cons b r =>
        rw [List.getLast_cons (by simp)] at e
        exact (List.nodup_cons.mp hn).1 (by rw [e]; exact List.getLast_mem _)
    show deg (tie a _ :: chain (a :: r)) p = 2
    rw [deg_cons, nearB_tie]
    by_cases h1 : p = a
    · subst h1
      rw [ind_t rfl, ind_f hal] at h
      simp
      omega
    · rw [ind_f h1] at h
      by_cases h3 : p = (a :: r).getLast (by simp)
      · rw [ind_t h3] at h
        rw [if_pos (by rw [← h3]; simp)]
        omega
      · rw [ind_f h3] at h
        rw [if_neg (by simp; exact ⟨fun e => h1 e.symm, fun e => h3 e.symm⟩)]
        omega
theorem cyc_nodup {l : List Int} (hn : l.Nodup) (h3 : 3 ≤ l.length) : (cyc l).Nodup := by
  cases l with
  | nil => exact List.nodup_nil
  | cons a r =>
    show (tie a _ :: chain (a :: r)).Nodup
    rw [List.nodup_cons]
    refine ⟨fun h => ?_, chain_nodup _ hn⟩
    match r, hn, h3, h with
    | b :: c :: r, hn, _, h =>
      have hn2 := List.nodup_cons.mp hn
      have hn3 := List.nodup_cons.mp hn2.2
      have el : (a :: b :: c :: r).getLast (by simp) = (c :: r).getLast (by simp) := by
        rw [List.getLast_cons (by simp), List.getLast_cons (by simp)]
      rw [el] at h
      have hl : (c :: r).getLast (by simp) ∈ c :: r := List.getLast_mem _
      have h : _ ∈ tie b a :: chain (b :: c :: r) := h
      rcases List.mem_cons.mp h with e | h
      · rcases tie_eq e with ⟨e, _⟩ | ⟨_, e⟩
        · exact hn2.1 (by rw [e]; simp)
        · exact hn3.1 (by rw [← e]; exact hl)
      · obtain ⟨x, y, hx, hy, e⟩ := chain_near h
        rcases tie_eq e with ⟨e, _⟩ | ⟨e, _⟩
        · exact hn2.1 (e ▸ hy)
        · exact hn2.1 (e ▸ hx)
theorem chain_ok {n : Int} : ∀ {l : List Int}, l.Nodup → (∀ p ∈ l, 0 ≤ p ∧ p < n) → ∀ t ∈ chain l, 0 ≤ t.1 ∧ t.1 < t.2 ∧ t.2 < n
  | [], _, _, t, ht => by cases ht
  | [a], _, _, t, ht => by cases ht
  | a :: b :: r, hn, hl, t, ht => by
    have hn2 := List.nodup_cons.mp hn
    have ht : t ∈ tie b a :: chain (b :: r) := ht
    rcases List.mem_cons.mp ht with rfl | ht
    · exact tie_ok (fun e => hn2.1 (by rw [e]; simp)) (hl b (by simp)) (hl a (by simp))
    · exact chain_ok hn2.2 (fun p hp => hl p (List.mem_cons_of_mem _ hp)) t ht
theorem cyc_ok {n : Int} {l : List Int} (hn : l.Nodup) (h2 : 2 ≤ l.length) (hl : ∀ p ∈ l, 0 ≤ p ∧ p < n) : ∀ t ∈ cyc l, 0 ≤ t.1 ∧ t.1 < t.2 ∧ t.2 < n := by
  cases l with
  | nil => intro t h; cases h
  | cons a r =>
    intro t ht
    have ht : t ∈ tie a _ :: chain (a :: r) := ht
    rcases List.mem_cons.mp ht with rfl | ht
    · refine tie_ok (fun e => ?_) (hl a (by simp)) (hl _ (List.getLast_mem _))
      cases r with
      | nil => simp at h2
      | cons b r =>
        rw [List.getLast_cons (by simp)] at e
        exact (List.nodup_cons.mp hn).1 (by rw [e]; exact List.getLast_mem _)
    · exact chain_ok hn hl t ht
/-- by indices -/
theorem chain_range : ∀ (a : Int) (r : List Int), (List.range r.length).map (fun i => tie ((a :: r).getD (i + 1) 0) ((a :: r).getD i 0)) = chain (a :: r)
  | a, [] => rfl
  | a, b :: r => by
    rw [List.length_cons, List.range_succ_eq_map, List.map_cons, List.map_map]
    show _ = tie b a :: chain (b :: r)
    rw [← chain_range b r]
    rfl
theorem cyc_range (l : List Int) : (List.range l.length).map (fun i => tie (l.getD i 0) (if i = 0 then l.getD (l.length - 1) 0 else l.getD (i - 1) 0)) = cyc l := by
  cases l with
  | nil => rfl
  | cons a r =>
    rw [List.length_cons, List.range_succ_eq_map, List.map_cons, List.map_map]
    show _ :: _ = tie a _ :: chain (a :: r)
    rw [← chain_range a r]
    congr 1
    rw [if_pos rfl, List.getLast_eq_getElem]
    simp
/-- a perfect matching, tie by tie -/
structure Match (n : Int) (bare : List Int) (ts : List (Int × Int)) : Prop where
  nd : bare.Nodup
  bn : ∀ p ∈ bare, 0 ≤ p ∧ p < n
  tn : ts.Nodup
  tok : ∀ t ∈ ts, 0 ≤ t.1 ∧ t.1 < t.2 ∧ t.2 < n
  dg : ∀ p, 0 ≤ p ∧ p < n → deg ts p = if p ∈ bare then 2 else 3
theorem Match.step {n : Int} {one other : Int} {bare : List Int} {ts : List (Int × Int)} (h : Match n (one :: bare) ts) (ho : other ∈ bare) (hf : tie one other ∉ ts) : Match n (bare.erase other) (ts ++ [tie one other]) := by
  have hn := List.nodup_cons.mp h.nd
  have hne : one ≠ other := fun e => hn.1 (e ▸ ho)
  refine ⟨hn.2.erase _, fun p hp => h.bn p (List.mem_cons_of_mem _ (List.mem_of_mem_erase hp)), ?_, ?_, fun p hp => ?_⟩
  · rw [List.nodup_append]
    refine ⟨h.tn, by simp, fun a ha b hb e => hf ?_⟩
    simp at hb
    rw [← hb, ← e]
    exact ha
  · intro t ht
    rcases List.mem_append.mp ht with ht | ht
    · exact h.tok t ht
    · simp at ht
      subst ht
      exact tie_ok hne (h.bn _ (by simp)) (h.bn _ (List.mem_cons_of_mem _ ho))
  · have d := h.dg p hp
    rw [deg_append, deg_cons, nearB_tie, deg_nil, d]
    simp only [hn.2.mem_erase_iff]
    by_cases h1 : p = one
    · subst h1
      rw [if_pos (by simp), if_pos (by simp), if_neg (fun c => hn.1 c.2)]
    · by_cases h2 : p = other
      · subst h2
        rw [if_pos (List.mem_cons_of_mem _ ho), if_pos (by simp), if_neg (fun c => c.1 rfl)]
      · rw [if_neg (c := (decide (one = p) || decide (other = p)) = true) (by simp; exact ⟨fun e => h1 e.symm, fun e => h2 e.symm⟩)]
        by_cases h3 : p ∈ bare
        · rw [if_pos (List.mem_cons_of_mem _ h3), if_pos ⟨h2, h3⟩]
        · rw [if_neg (by simp; exact ⟨h1, h3⟩), if_neg (fun c => h3 c.2)]
/-- handshakes -/
def sumDeg (ts : List (Int × Int)) (n : Nat) : Nat := ((List.range n).map fun (i : Nat) => deg ts (i : Int)).foldr (· + ·) 0
theorem sum_add {α : Type} (f g : α → Nat) : ∀ l : List α, (l.map fun i => f i + g i).foldr (· + ·) 0 = (l.map f).foldr (· + ·) 0 + (l.map g).foldr (· + ·) 0
  | [] => rfl
  | a :: l => by simp only [List.map_cons, List.foldr_cons, sum_add f g l]; omega
theorem sum_ind (x : Int) : ∀ n : Nat, ((List.range n).map fun (i : Nat) => ind (x = (i : Int))).foldr (· + ·) 0 = if 0 ≤ x ∧ x < n then 1 else 0
  | 0 => by simp
  | n + 1 => by
    have e : ∀ (l : List Nat) (z : Nat), l.foldr (· + ·) z = l.foldr (· + ·) 0 + z := fun l z => by
      induction l with
      | nil => simp
      | cons a l ih => simp only [List.foldr_cons, ih]; omega
    rw [List.range_succ, List.map_append, List.foldr_append, List.map_cons, List.map_nil, List.foldr_cons, List.foldr_nil, e, sum_ind x n]
    by_cases h1 : x = n
    · rw [ind_t h1, if_neg (by omega), if_pos (by omega)]
    · rw [ind_f h1]
      by_cases h2 : 0 ≤ x ∧ x < n
      · rw [if_pos h2, if_pos (by omega)]
      · rw [if_neg h2, if_neg (by omega)]
theorem sum_even {n : Nat} : ∀ {ts : List (Int × Int)}, (∀ t ∈ ts, 0 ≤ t.1 ∧ t.1 < t.2 ∧ t.2 < n) → sumDeg ts n = 2 * ts.length
  | [], _ => by
    unfold sumDeg
    induction n with
    | zero => rfl
    | succ n ih => rw [List.range_succ, List.map_append, List.foldr_append]; simpa using ih
  | t :: ts, h => by
    have ih := sum_even (n := n) (ts := ts) fun u hu => h u (List.mem_cons_of_mem _ hu)
    have e : sumDeg (t :: ts) n = ((List.range n).map fun (i : Nat) => (ind (t.1 = (i : Int)) + ind (t.2 = (i : Int))) + deg ts (i : Int)).foldr (· + ·) 0 := by
      unfold sumDeg
      congr 1
      refine List.map_congr_left fun i _ => ?_
      rw [deg_cons]
      congr 1
      have := h t (by simp)
      unfold nearB ind
      by_cases h1 : t.1 = (i : Int)
      · have h2 : ¬ t.2 = (i : Int) := by omega
        simp [h1, h2]
      · by_cases h2 : t.2 = (i : Int)
        · simp [h1, h2]
        · simp [h1, h2]
    rw [e, sum_add, sum_add, sum_ind, sum_ind, if_pos (by have := h t (by simp); omega), if_pos (by have := h t (by simp); omega)]
    have : sumDeg ts n = ((List.range n).map fun (i : Nat) => deg ts (i : Int)).foldr (· + ·) 0 := rfl
    rw [← this, ih, List.length_cons]
    omega
theorem sum_odd (f : Nat → Nat) : ∀ n : Nat, (∀ i, i < n → f i % 2 = 1) → ((List.range n).map f).foldr (· + ·) 0 % 2 = n % 2
  | 0, _ => rfl
  | n + 1, h => by
    have e : ∀ (l : List Nat) (z : Nat), l.foldr (· + ·) z = l.foldr (· + ·) 0 + z := fun l z => by
      induction l with
      | nil => simp
      | cons a l ih => simp only [List.foldr_cons, ih]; omega
    rw [List.range_succ, List.map_append, List.foldr_append, List.map_cons, List.map_nil, List.foldr_cons, List.foldr_nil, e]
    have := sum_odd f n fun i hi => h i (by omega)
    have := h n (by omega)
    omega
/-- all odd but the last: the last too -/
theorem last_odd {n : Nat} {ts : List (Int × Int)} (hn : n % 2 = 0) (h : ∀ t ∈ ts, 0 ≤ t.1 ∧ t.1 < t.2 ∧ t.2 < n) (h0 : 0 < n) (ho : ∀ i : Nat, i < n - 1 → deg ts (i : Int) % 2 = 1) : deg ts ((n - 1 : Nat) : Int) % 2 = 1 := by
  obtain ⟨m, rfl⟩ : ∃ m, n = m + 1 := ⟨n - 1, by omega⟩
  have s := sum_even h
  have e : ∀ (l : List Nat) (z : Nat), l.foldr (· + ·) z = l.foldr (· + ·) 0 + z := fun l z => by
    induction l with
    | nil => simp
    | cons a l ih => simp only [List.foldr_cons, ih]; omega
  unfold sumDeg at s
  rw [List.range_succ, List.map_append, List.foldr_append, List.map_cons, List.map_nil, List.foldr_cons, List.foldr_nil, e] at s
  have := sum_odd (fun i => deg ts (i : Int)) m fun i hi => ho i (by omega)
  simp only [Nat.add_sub_cancel]
  omega
/-- a tie is put in, or taken out -/
theorem deg_filter {ts : List (Int × Int)} {t : Int × Int} (hn : ts.Nodup) (p : Int) : deg (ts.filter fun u => !decide (u = t)) p + (if t ∈ ts ∧ nearB p t = true then 1 else 0) = deg ts p := by
  induction ts with
  | nil => simp
  | cons u ts ih =>
    have h := List.nodup_cons.mp hn
    have ih := ih h.2
    rw [List.filter_cons]
    by_cases e : u = t
    · subst e
      have e2 : (ts.filter fun v => !decide (v = u)) = ts := List.filter_eq_self.mpr fun v hv => by
        simp
        exact fun e => h.1 (e ▸ hv)
      rw [if_neg (by simp), e2, deg_cons]
      by_cases c : nearB p u = true
      · rw [if_pos ⟨by simp, c⟩, if_pos c]; omega
      · rw [if_neg (fun z => c z.2), if_neg c]; omega
    · rw [if_pos (by simp [e]), deg_cons, deg_cons]
      have : (t ∈ u :: ts ∧ nearB p t = true) ↔ (t ∈ ts ∧ nearB p t = true) := by
        rw [List.mem_cons]
        exact ⟨fun z => ⟨z.1.resolve_left fun c => e c.symm, z.2⟩, fun z => ⟨.inr z.1, z.2⟩⟩
      simp only [this]
      omega
end HD

namespace HD
open PySem PySem.Spec PyProof.Rows L2 EL LamX
/-! ### counting -/
theorem nodup_sub_len {α : Type} [DecidableEq α] : ∀ {xs ys : List α}, xs.Nodup → (∀ x ∈ xs, x ∈ ys) → xs.length ≤ ys.length
  | [], _, _, _ => Nat.zero_le _
  | x :: xs, ys, hn, h => by
    have hn2 := List.nodup_cons.mp hn
    have hx := h x (by simp)
    have := nodup_sub_len (ys := ys.erase x) hn2.2 fun y hy => (List.mem_erase_of_ne (fun (e : y = x) => hn2.1 (e ▸ hy))).mpr (h y (by simp [hy]))
    rw [List.length_erase_of_mem hx] at this
    have := List.length_pos_of_mem hx
    rw [List.length_cons]
    omega
/-- an involution that keeps nothing in place -/
theorem even_of_inv {α : Type} [DecidableEq α] (f : α → α) : ∀ (k : Nat) (xs : List α), xs.length ≤ k → xs.Nodup → (∀ x ∈ xs, f x ∈ xs ∧ f (f x) = x ∧ f x ≠ x) → xs.length % 2 = 0
  | 0, [], _, _, _ => rfl
  | 0, _ :: _, h, _, _ => by simp at h
  | k + 1, [], _, _, _ => rfl
  | k + 1, x :: xs, hk, hn, h => by
    have hn2 := List.nodup_cons.mp hn
    obtain ⟨h1, h2, h3⟩ := h x (by simp)
    have hf : f x ∈ xs := (List.mem_cons.mp h1).resolve_left h3
    have hl := List.length_erase_of_mem hf
    have hp := List.length_pos_of_mem hf
    rw [List.length_cons] at hk
    have ih := even_of_inv f k (xs.erase (f x)) (by omega) (hn2.2.erase _) fun y hy => by
      have hy2 := (hn2.2.mem_erase_iff).mp hy
      obtain ⟨g1, g2, g3⟩ := h y (by simp [hy2.2])
      refine ⟨?_, g2, g3⟩
      have : f y ≠ x := fun e => hy2.1 (by rw [← e, g2])
      have g1 := (List.mem_cons.mp g1).resolve_left this
      refine (hn2.2.mem_erase_iff).mpr ⟨fun e => ?_, g1⟩
      have e2 : y = x := by rw [← g2, e, h2]
      exact hn2.1 (e2 ▸ hy2.2)
    rw [List.length_cons]
    omega
def sumL (l : List Nat) : Nat := l.foldr (· + ·) 0
@[simp] theorem sumL_nil : sumL [] = 0 := rfl
@[simp] theorem sumL_cons (a : Nat) (l : List Nat) : sumL (a :: l) = a + sumL l := rfl
theorem flatMap_len {α β : Type} (f : α → List β) : ∀ l : List α, (l.flatMap f).length = sumL (l.map fun a => (f a).length)
  | [] => rfl
  | a :: l => by rw [List.flatMap_cons, List.length_append, flatMap_len f l]; rfl
theorem filter_parity {α : Type} (f : α → Nat) (p : α → Bool) : ∀ l : List α, (∀ a ∈ l, f a % 2 = if p a = true then 1 else 0) → sumL (l.map f) % 2 = (l.filter p).length % 2
  | [], _ => rfl
  | a :: l, h => by
    have ih := filter_parity f p l fun b hb => h b (by simp [hb])
    have ha := h a (by simp)
    rw [List.map_cons, sumL_cons, List.filter_cons]
    cases q : p a with
    | true => rw [q, if_pos rfl] at ha; rw [if_pos rfl, List.length_cons]; omega
    | false => rw [q, if_neg (by simp)] at ha; rw [if_neg (by simp)]; omega
theorem flatMap_nodup {α β : Type} {f : α → List β} : ∀ {l : List α}, l.Nodup → (∀ a ∈ l, (f a).Nodup) → (∀ a b x, a ∈ l → b ∈ l → x ∈ f a → x ∈ f b → a = b) → (l.flatMap f).Nodup
  | [], _, _, _ => List.nodup_nil
  | a :: l, hn, h1, h2 => by
    have hn2 := List.nodup_cons.mp hn
    rw [List.flatMap_cons, List.nodup_append]
    refine ⟨h1 a (by simp), flatMap_nodup hn2.2 (fun b hb => h1 b (by simp [hb])) (fun b c x hb hc => h2 b c x (by simp [hb]) (by simp [hc])), fun x hx y hy e => ?_⟩
    subst e
    obtain ⟨b, hb, hx2⟩ := List.mem_flatMap.mp hy
    exact hn2.1 (h2 a b x (by simp) (by simp [hb]) hx hx2 ▸ hb)
theorem map_nodup {α β : Type} {f : α → β} : ∀ {l : List α}, l.Nodup → (∀ a b, a ∈ l → b ∈ l → f a = f b → a = b) → (l.map f).Nodup
  | [], _, _ => List.nodup_nil
  | a :: l, hn, h => by
    have hn2 := List.nodup_cons.mp hn
    rw [List.map_cons, List.nodup_cons]
    refine ⟨fun c => ?_, map_nodup hn2.2 fun b c hb hc => h b c (by simp [hb]) (by simp [hc])⟩
    obtain ⟨b, hb, e⟩ := List.mem_map.mp c
    exact hn2.1 (h b a (by simp [hb]) (by simp) e ▸ hb)
/-! ### ways in a graph -/
structure Gph (nb : Int → List Int) (n : Nat) : Prop where
  nd : ∀ p, (nb p).Nodup
  sym : ∀ p q, q ∈ nb p → p ∈ nb q
  irr : ∀ p, p ∉ nb p
  rg : ∀ p q, q ∈ nb p → 0 ≤ q ∧ q < n
def lst (l : List Int) : Int := l.getLast?.getD 0
@[simp] theorem lst_append (l : List Int) (p : Int) : lst (l ++ [p]) = p := by simp [lst]
theorem lst_cons {a : Int} {l : List Int} (h : l ≠ []) : lst (a :: l) = lst l := by
  cases l with
  | nil => exact absurd rfl h
  | cons b r => simp [lst, List.getLast?_cons_cons]
theorem lst_app {l m : List Int} (h : m ≠ []) : lst (l ++ m) = lst m := by
  induction l with
  | nil => rfl
  | cons a l ih => rw [List.cons_append, lst_cons (by simp [h]), ih]
@[simp] theorem lst_one (p : Int) : lst [p] = p := rfl
theorem lst_mem {l : List Int} (h : l ≠ []) : lst l ∈ l := by
  unfold lst
  rw [List.getLast?_eq_some_getLast h]
  exact List.getLast_mem h
/-- each and the next one are tied -/
def walk (nb : Int → List Int) : List Int → Prop
  | a :: b :: r => b ∈ nb a ∧ walk nb (b :: r)
  | _ => True
variable {nb : Int → List Int} {n : Nat}
@[simp] theorem walk_nil : walk nb [] := trivial
@[simp] theorem walk_one (a : Int) : walk nb [a] := trivial
theorem walk_cons {a b : Int} {r : List Int} : walk nb (a :: b :: r) ↔ b ∈ nb a ∧ walk nb (b :: r) := Iff.rfl
theorem walk_app {a b : Int} : ∀ {l m : List Int}, walk nb (l ++ a :: b :: m) ↔ walk nb (l ++ [a]) ∧ b ∈ nb a ∧ walk nb (b :: m)
  | [], m => by simp [walk]
  | [c], m => by simp [walk, and_assoc]
  | c :: d :: l, m => by
    have ih := walk_app (a := a) (b := b) (l := d :: l) (m := m)
    simp only [List.cons_append] at ih ⊢
    simp only [walk_cons, ih, and_assoc]
theorem walk_at {a : Int} : ∀ {l m : List Int}, walk nb (l ++ a :: m) ↔ walk nb (l ++ [a]) ∧ walk nb (a :: m)
  | l, [] => by simp
  | l, b :: m => by rw [walk_app, walk_cons]
theorem walk_snoc {a b : Int} {l : List Int} : walk nb (l ++ [a, b]) ↔ walk nb (l ++ [a]) ∧ b ∈ nb a := by
  rw [walk_app]; simp
theorem walk_rev (g : Gph nb n) : ∀ {l : List Int}, walk nb l → walk nb l.reverse
  | [], _ => trivial
  | [a], _ => trivial
  | a :: b :: r, h => by
    have ih := walk_rev g h.2
    rw [List.reverse_cons] at ih ⊢
    rw [List.reverse_cons, List.append_assoc]
    exact walk_snoc.mpr ⟨ih, g.sym _ _ h.1⟩
/-- one place farther -/
def ext (nb : Int → List Int) (l : List Int) : List (List Int) := ((nb (lst l)).filter fun p => !decide (p ∈ l)).map fun p => l ++ [p]
def ways (nb : Int → List Int) : Nat → List Int → List (List Int)
  | 0, l => [l]
  | k + 1, l => (ext nb l).flatMap (ways nb k)
theorem mem_ext {l m : List Int} : m ∈ ext nb l ↔ ∃ p, p ∈ nb (lst l) ∧ p ∉ l ∧ m = l ++ [p] := by
  unfold ext
  simp only [List.mem_map, List.mem_filter]
  constructor
  · rintro ⟨p, ⟨h1, h2⟩, rfl⟩
    exact ⟨p, h1, by simpa using h2, rfl⟩
  · rintro ⟨p, h1, h2, rfl⟩
    exact ⟨p, ⟨h1, by simpa using h2⟩, rfl⟩
theorem ways_pre : ∀ {k : Nat} {l m : List Int}, m ∈ ways nb k l → ∃ t, m = l ++ t ∧ t.length = k
  | 0, l, m, h => by
    have h : m ∈ [l] := h
    simp at h
    exact ⟨[], by simp [h]⟩
  | k + 1, l, m, h => by
    obtain ⟨x, hx, hm⟩ := List.mem_flatMap.mp h
    obtain ⟨p, _, _, rfl⟩ := mem_ext.mp hx
    obtain ⟨t, rfl, ht⟩ := ways_pre hm
    exact ⟨p :: t, by simp, by simp [ht]⟩
theorem ways_nodup (g : Gph nb n) : ∀ (k : Nat) (l : List Int), (ways nb k l).Nodup
  | 0, l => by show [l].Nodup; simp
  | k + 1, l => by
    refine flatMap_nodup (map_nodup ((g.nd _).filter _) fun a b _ _ e => by simpa using e) (fun a _ => ways_nodup g k a) fun a b x ha hb hxa hxb => ?_
    obtain ⟨p, _, _, rfl⟩ := mem_ext.mp ha
    obtain ⟨q, _, _, rfl⟩ := mem_ext.mp hb
    obtain ⟨t, rfl, _⟩ := ways_pre hxa
    obtain ⟨u, e, _⟩ := ways_pre hxb
    simp at e
    rw [e.1]
theorem ways_iff : ∀ {k : Nat} {l m : List Int}, l ≠ [] → l.Nodup → walk nb l → (m ∈ ways nb k l ↔ ∃ t, m = l ++ t ∧ t.length = k ∧ m.Nodup ∧ walk nb m)
  | 0, l, m, h0, h1, h2 => by
    show m ∈ [l] ↔ _
    rw [List.mem_singleton]
    constructor
    · rintro rfl; exact ⟨[], by simp, rfl, h1, h2⟩
    · rintro ⟨t, rfl, ht, _⟩
      rw [List.length_eq_zero_iff] at ht
      simp [ht]
  | k + 1, l, m, h0, h1, h2 => by
    show m ∈ (ext nb l).flatMap (ways nb k) ↔ _
    rw [List.mem_flatMap]
    have key : ∀ p, p ∈ nb (lst l) → p ∉ l → (l ++ [p]).Nodup ∧ walk nb (l ++ [p]) := fun p h3 h4 => by
      refine ⟨?_, ?_⟩
      · rw [List.nodup_append]
        exact ⟨h1, by simp, fun a ha b hb e => by simp at hb; exact h4 (by rw [← hb, ← e]; exact ha)⟩
      · obtain ⟨l', a, rfl⟩ : ∃ l' a, l = l' ++ [a] := ⟨l.dropLast, l.getLast h0, (List.dropLast_concat_getLast h0).symm⟩
        rw [lst_append] at h3
        rw [List.append_assoc]
        exact walk_snoc.mpr ⟨h2, h3⟩
    constructor
    · rintro ⟨x, hx, hm⟩
      obtain ⟨p, h3, h4, rfl⟩ := mem_ext.mp hx
      obtain ⟨k1, k2⟩ := key p h3 h4
      obtain ⟨t, rfl, ht, h5, h6⟩ := (ways_iff (by simp) k1 k2).mp hm
      exact ⟨p :: t, by simp, by simp [ht], h5, h6⟩
    · rintro ⟨t, rfl, ht, h5, h6⟩
      cases t with
      | nil => cases ht
      | cons p t =>
        obtain ⟨l', a, rfl⟩ : ∃ l' a, l = l' ++ [a] := ⟨l.dropLast, l.getLast h0, (List.dropLast_concat_getLast h0).symm⟩
        rw [List.append_assoc] at h6
        have h7 := (walk_app.mp h6).2.1
        have h8 : p ∉ l' ++ [a] := fun c => by
          rw [List.nodup_append] at h5
          exact h5.2.2 p c p (by simp) rfl
        refine ⟨l' ++ [a] ++ [p], mem_ext.mpr ⟨p, by rw [lst_append]; exact h7, h8, rfl⟩, ?_⟩
        obtain ⟨k1, k2⟩ := key p (by rw [lst_append]; exact h7) h8
        refine (ways_iff (by simp) k1 k2).mpr ⟨t, by simp, by simpa using ht, h5, by rw [List.append_assoc]; exact h6⟩
/-- level by level -/
def level (nb : Int → List Int) (ls : List (List Int)) : List (List Int) := ls.flatMap (ext nb)
def levels (nb : Int → List Int) : Nat → List (List Int) → List (List Int)
  | 0, ls => ls
  | k + 1, ls => levels nb k (level nb ls)
theorem levels_app : ∀ (k : Nat) (ls ms : List (List Int)), levels nb k (ls ++ ms) = levels nb k ls ++ levels nb k ms
  | 0, _, _ => rfl
  | k + 1, ls, ms => by
    show levels nb k (level nb (ls ++ ms)) = levels nb k (level nb ls) ++ levels nb k (level nb ms)
    rw [← levels_app k]
    unfold level
    rw [List.flatMap_append]
theorem levels_flat : ∀ (k : Nat) (ls : List (List Int)), levels nb k ls = ls.flatMap (ways nb k)
  | 0, ls => by
    show ls = _
    induction ls with
    | nil => rfl
    | cons a ls ih => rw [List.flatMap_cons, ← ih]; rfl
  | k + 1, ls => by
    show levels nb k (level nb ls) = _
    rw [levels_flat k]
    unfold level
    rw [List.flatMap_assoc]
    rfl
theorem levels_snoc : ∀ (k : Nat) (ls : List (List Int)), levels nb (k + 1) ls = level nb (levels nb k ls)
  | 0, ls => rfl
  | k + 1, ls => by
    show levels nb (k + 1) (level nb ls) = level nb (levels nb k (level nb ls))
    rw [levels_snoc k]
/-- at most three ties at each place: at most two ways on -/
theorem ways_len {c : Nat} (h : ∀ l, 2 ≤ l.length → walk nb l → (ext nb l).length ≤ c) : ∀ {k : Nat} {l : List Int}, 2 ≤ l.length → l.Nodup → walk nb l → (ways nb k l).length ≤ c ^ k
  | 0, l, _, _, _ => by show [l].length ≤ 1; simp
  | k + 1, l, h1, h2, h3 => by
    have s : ∀ ls : List (List Int), (∀ m ∈ ls, (ways nb k m).length ≤ c ^ k) → (ls.flatMap (ways nb k)).length ≤ ls.length * c ^ k := fun ls => by
      induction ls with
      | nil => intro _; simp
      | cons a ls ih =>
        intro q
        have := ih fun m hm => q m (by simp [hm])
        have := q a (by simp)
        rw [List.flatMap_cons, List.length_append, List.length_cons, Nat.succ_mul]
        omega
    have q := s (ext nb l) fun m hm => by
      obtain ⟨p, h4, h5, rfl⟩ := mem_ext.mp hm
      have h0 : l ≠ [] := by intro e; rw [e] at h1; simp at h1
      have hm2 : l ++ [p] ∈ ways nb 1 l := List.mem_flatMap.mpr ⟨_, hm, by show _ ∈ [l ++ [p]]; simp⟩
      obtain ⟨t, e, _, h6, h7⟩ := (ways_iff h0 h2 h3).mp hm2
      exact ways_len h (by simp; omega) h6 h7
    refine Nat.le_trans q ?_
    rw [Nat.pow_succ, Nat.mul_comm]
    exact Nat.mul_le_mul_left _ (h l h1 h3)
/-! ### turns -/
/-- a lane turned at a place -/
def turnL : List Int → Int → List Int
  | [], _ => []
  | a :: r, p => if a = p then a :: r.reverse else a :: turnL r p
theorem turnL_at {p : Int} : ∀ {t c : List Int}, p ∉ t → turnL (t ++ p :: c) p = t ++ p :: c.reverse
  | [], c, _ => by simp [turnL]
  | a :: t, c, h => by
    have h1 : ¬ a = p := fun e => h (by simp [e])
    have h2 : p ∉ t := fun e => h (by simp [e])
    simp [turnL, h1, turnL_at h2]
/-- a place in a list, the first time -/
theorem split_at {p : Int} : ∀ {l : List Int}, p ∈ l → ∃ t c, l = t ++ p :: c ∧ p ∉ t
  | a :: r, h => by
    by_cases e : a = p
    · subst e; exact ⟨[], r, rfl, by simp⟩
    · obtain ⟨t, c, rfl, h2⟩ := split_at ((List.mem_cons.mp h).resolve_left fun z => e z.symm)
      exact ⟨a :: t, c, rfl, by simp [h2]; exact fun z => e z.symm⟩
def fst (l : List Int) : Int := l.headD 0
/-- the one ahead of the last -/
def pen (l : List Int) : Int := lst l.dropLast
theorem pen_snoc {l : List Int} {a b : Int} : pen (l ++ [a, b]) = a := by
  have : l ++ [a, b] = (l ++ [a]) ++ [b] := by simp
  unfold pen
  rw [this, List.dropLast_concat, lst_append]
def turnsL (nb : Int → List Int) (l : List Int) : List Int := (nb (lst l)).filter fun p => !(decide (p = fst l) || decide (p = pen l))
def closedL (nb : Int → List Int) (l : List Int) : Bool := decide (fst l ∈ nb (lst l))
theorem filter_one {α : Type} [DecidableEq α] : ∀ {xs : List α} {a : α}, xs.Nodup → a ∈ xs → (xs.filter fun x => !decide (x = a)).length + 1 = xs.length
  | x :: xs, a, hn, h => by
    have hn2 := List.nodup_cons.mp hn
    rw [List.filter_cons, List.length_cons]
    by_cases e : x = a
    · subst e
      rw [if_neg (by simp), List.filter_eq_self.mpr fun y hy => by simp; exact fun e => hn2.1 (e ▸ hy)]
    · rw [if_pos (by simp [e]), List.length_cons, filter_one hn2.2 ((List.mem_cons.mp h).resolve_left fun z => e z.symm)]
theorem filter_none {α : Type} [DecidableEq α] {xs : List α} {a : α} (h : a ∉ xs) : (xs.filter fun x => !decide (x = a)) = xs := List.filter_eq_self.mpr fun y hy => by simp; exact fun e => h (e ▸ hy)
/-- how many turns a lane has -/
theorem turns_len (g : Gph nb n) {l : List Int} (h3 : 3 ≤ l.length) (hn : l.Nodup) (hw : walk nb l) : (turnsL nb l).length + 1 + (if closedL nb l = true then 1 else 0) = (nb (lst l)).length := by
  obtain ⟨m, x, y, rfl⟩ : ∃ m x y, l = m ++ [x, y] := by
    have h0 : l ≠ [] := by intro e; simp [e] at h3
    have h1 : l.dropLast ≠ [] := by intro e; have := congrArg List.length e; simp at this; omega
    refine ⟨l.dropLast.dropLast, l.dropLast.getLast h1, l.getLast h0, ?_⟩
    rw [show [l.dropLast.getLast h1, l.getLast h0] = [l.dropLast.getLast h1] ++ [l.getLast h0] from rfl, ← List.append_assoc, List.dropLast_concat_getLast, List.dropLast_concat_getLast]
  have e1 : lst (m ++ [x, y]) = y := by rw [lst_app (by simp)]; rfl
  have e2 := pen_snoc (l := m) (a := x) (b := y)
  have hx : x ∈ nb y := g.sym _ _ (walk_snoc.mp hw).2
  have hf : fst (m ++ [x, y]) ≠ x := by
    cases m with
    | nil => simp at h3
    | cons a m =>
      show a ≠ x
      intro e
      rw [List.cons_append, List.nodup_cons] at hn
      exact hn.1 (by simp [e])
  unfold turnsL closedL
  rw [e1, e2]
  have e3 : ((nb y).filter fun p => !(decide (p = fst (m ++ [x, y])) || decide (p = x))) = ((nb y).filter fun p => !decide (p = x)).filter fun p => !decide (p = fst (m ++ [x, y])) := by
    rw [List.filter_filter]
    congr 1
    funext p
    rw [Bool.not_or, Bool.and_comm]
  rw [e3]
  have k1 := filter_one (g.nd y) hx
  by_cases c : fst (m ++ [x, y]) ∈ nb y
  · rw [if_pos (by simpa using c)]
    have := filter_one (xs := (nb y).filter fun p => !decide (p = x)) (a := fst (m ++ [x, y])) ((g.nd y).filter _) (by rw [List.mem_filter]; exact ⟨c, by simp [hf]⟩)
    omega
  · rw [if_neg (by simpa using c), filter_none (fun z => c (List.mem_filter.mp z).1)]
    omega
/-- a turn: where it is -/
theorem turn_split {l : List Int} {p : Int} (h : p ∈ l) (hn : l.Nodup) (h1 : p ≠ lst l) (h2 : p ≠ pen l) : ∃ t c x y, l = t ++ p :: (c ++ [x, y]) ∧ p ∉ t := by
  obtain ⟨t, c, rfl, ht⟩ := split_at h
  match c, h1, h2, hn with
  | [], h1, _, _ => exact absurd (by simp) h1
  | [a], _, h2, _ => exact absurd (pen_snoc (l := t) (a := p) (b := a)).symm h2
  | a :: b :: r, _, _, _ =>
    have h0 : a :: b :: r ≠ [] := by simp
    have h1 : (a :: b :: r).dropLast ≠ [] := by simp
    refine ⟨t, (a :: b :: r).dropLast.dropLast, (a :: b :: r).dropLast.getLast h1, (a :: b :: r).getLast h0, ?_, ht⟩
    rw [show [(a :: b :: r).dropLast.getLast h1, (a :: b :: r).getLast h0] = [(a :: b :: r).dropLast.getLast h1] ++ [(a :: b :: r).getLast h0] from rfl, ← List.append_assoc, List.dropLast_concat_getLast, List.dropLast_concat_getLast]
/-- what a turn does -/
structure Turned (nb : Int → List Int) (l : List Int) (p : Int) : Prop where
  perm : (turnL l p).Perm l
  nd : (turnL l p).Nodup
  wk : walk nb (turnL l p)
  fs : fst (turnL l p) = fst l
  back : turnL (turnL l p) p = l
  trn : p ∈ turnsL nb (turnL l p)
  ne : turnL l p ≠ l
  lne : lst (turnL l p) ≠ lst l
  len : (turnL l p).length = l.length
  two : ∀ a b r, l = a :: b :: r → ∃ r', turnL l p = a :: b :: r'
theorem turn_ok (g : Gph nb n) {l : List Int} {p : Int} (hn : l.Nodup) (hw : walk nb l) (hp : p ∈ l) (ht : p ∈ turnsL nb l) : Turned nb l p := by
  unfold turnsL at ht
  obtain ⟨h1, h2⟩ := List.mem_filter.mp ht
  simp at h2
  obtain ⟨t, c, x, y, rfl, h3⟩ := turn_split hp hn (fun e => g.irr _ (by rw [← e] at h1; exact h1)) h2.2
  have el : lst (t ++ p :: (c ++ [x, y])) = y := by
    rw [lst_app (by simp), lst_cons (by simp), lst_app (by simp)]; rfl
  rw [el] at h1
  have e : turnL (t ++ p :: (c ++ [x, y])) p = t ++ p :: y :: x :: c.reverse := by
    rw [turnL_at h3]; simp
  have e2 : t ++ p :: y :: x :: c.reverse = t ++ p :: (c ++ [x, y]).reverse := by simp
  have hperm : (t ++ p :: y :: x :: c.reverse).Perm (t ++ p :: (c ++ [x, y])) := by
    rw [e2]
    exact (List.Perm.refl t).append ((List.reverse_perm _).cons p)
  have t0 : t ≠ [] := fun z => by
    subst z
    exact h2.1 rfl
  have hn' : (t ++ p :: y :: x :: c.reverse).Nodup := hperm.nodup_iff.mpr hn
  obtain ⟨w1, w2⟩ := walk_at.mp hw
  have w3 : walk nb (c ++ [x, y]) := by
    cases c with
    | nil => exact w2.2
    | cons a c => exact w2.2
  have w4 := walk_rev g w3
  rw [List.reverse_append] at w4
  have w4 : walk nb (y :: x :: c.reverse) := w4
  have hlast : lst (t ++ p :: y :: x :: c.reverse) ∈ x :: c.reverse := by
    rw [lst_app (by simp), lst_cons (by simp), lst_cons (by simp)]
    exact lst_mem (by simp)
  have hy : y ∉ x :: c.reverse := fun z => by
    have := List.nodup_append.mp hn'
    have := (List.nodup_cons.mp this.2.1).2
    exact (List.nodup_cons.mp this).1 z
  have hll : lst (t ++ p :: y :: x :: c.reverse) ≠ y := fun z => hy (z ▸ hlast)
  refine ⟨by rw [e]; exact hperm, by rw [e]; exact hn', ?_, ?_, ?_, ?_, ?_, ?_, ?_, ?_⟩
  · rw [e]
    exact walk_at.mpr ⟨w1, ⟨g.sym _ _ h1, w4⟩⟩
  · rw [e]
    cases t with
    | nil => exact absurd rfl t0
    | cons a t => rfl
  · rw [e, e2, turnL_at h3, List.reverse_reverse]
  · rw [e]
    unfold turnsL
    rw [List.mem_filter]
    have hx : lst (t ++ p :: y :: x :: c.reverse) = (match c with | [] => x | a :: _ => a) := by
      rw [lst_app (by simp), lst_cons (by simp), lst_cons (by simp)]
      cases c with
      | nil => rfl
      | cons a c => rw [List.reverse_cons, ← List.cons_append, lst_append]
    refine ⟨?_, ?_⟩
    · rw [hx]
      cases c with
      | nil => exact g.sym _ _ w2.1
      | cons a c => exact g.sym _ _ w2.1
    · simp
      refine ⟨fun z => ?_, fun z => ?_⟩
      · cases t with
        | nil => exact absurd rfl t0
        | cons a t => exact h3 (by rw [z]; show a ∈ a :: t; simp)
      · have q : pen (t ++ p :: y :: x :: c.reverse) ∈ y :: x :: c.reverse := by
          have : t ++ p :: y :: x :: c.reverse = (t ++ [p]) ++ y :: x :: c.reverse := by simp
          unfold pen
          rw [this, List.dropLast_append_of_ne_nil (by simp), lst_app (by simp)]
          exact List.dropLast_subset _ (lst_mem (by simp))
        rw [← z] at q
        have := List.nodup_append.mp hn'
        exact (List.nodup_cons.mp this.2.1).1 q
  · rw [e]
    intro z
    have := congrArg lst z
    rw [el] at this
    exact hll this
  · rw [e, el]
    exact hll
  · rw [e]
    simp
  · intro a b r z
    rw [e]
    match t, t0, z with
    | [u], _, z =>
      cases z
      exact ⟨_, rfl⟩
    | u :: v :: w, _, z =>
      cases z
      exact ⟨_, rfl⟩
/-- the lanes that begin with two places -/
def lanes2 (nb : Int → List Int) (n : Nat) (x y : Int) : List (List Int) := ways nb (n - 2) [x, y]
theorem mem_lanes2 (g : Gph nb n) {x y : Int} (h : y ∈ nb x) (hn : 2 ≤ n) {l : List Int} : l ∈ lanes2 nb n x y ↔ (∃ r, l = x :: y :: r) ∧ l.length = n ∧ l.Nodup ∧ walk nb l := by
  have hne : x ≠ y := fun e => g.irr x (by rw [e] at h ⊢; exact h)
  unfold lanes2
  rw [ways_iff (by simp) (by simp [hne]) (show walk nb [x, y] from ⟨h, trivial⟩)]
  constructor
  · rintro ⟨t, rfl, h1, h2, h3⟩
    exact ⟨⟨t, rfl⟩, by simp; omega, h2, h3⟩
  · rintro ⟨⟨r, rfl⟩, h1, h2, h3⟩
    exact ⟨r, rfl, by simp at h1; omega, h2, h3⟩
/-- a lane has all places -/
theorem lane_full {l : List Int} (hn : l.Nodup) (hl : l.length = n) (hr : ∀ p ∈ l, 0 ≤ p ∧ p < n) {q : Int} (hq : 0 ≤ q ∧ q < n) : q ∈ l := by
  refine Classical.byContradiction fun c => ?_
  have h1 : (q :: l).Nodup := List.nodup_cons.mpr ⟨c, hn⟩
  have := nodup_sub_len (xs := q :: l) (ys := (List.range n).map fun (i : Nat) => (i : Int)) h1 fun p hp => by
    have : 0 ≤ p ∧ p < n := by
      rcases List.mem_cons.mp hp with rfl | hp
      · exact hq
      · exact hr p hp
    exact List.mem_map.mpr ⟨p.toNat, List.mem_range.mpr (by omega), by omega⟩
  simp at this
  omega
theorem walk_rg (g : Gph nb n) : ∀ {l : List Int}, walk nb l → 2 ≤ l.length → ∀ p ∈ l, 0 ≤ p ∧ p < n
  | [a, b], h, _, p, hp => by
    simp at hp
    rcases hp with rfl | rfl
    · exact g.rg _ _ (g.sym _ _ h.1)
    · exact g.rg _ _ h.1
  | a :: b :: c :: r, h, _, p, hp => by
    rcases List.mem_cons.mp hp with rfl | hp
    · exact g.rg _ _ (g.sym _ _ h.1)
    · exact walk_rg g h.2 (by simp) p hp
/-- through each tie there go an even number of closed lanes -/
theorem even_closed (g : Gph nb n) (hn : 3 ≤ n) (ho : ∀ p : Int, 0 ≤ p ∧ p < n → (nb p).length % 2 = 1) {x y : Int} (h : y ∈ nb x) : ((lanes2 nb n x y).filter (closedL nb)).length % 2 = 0 := by
  have hd : (lanes2 nb n x y).Nodup := ways_nodup g _ _
  have hp := filter_parity (fun l => (turnsL nb l).length) (closedL nb) (lanes2 nb n x y) fun l hl => by
    obtain ⟨_, h1, h2, h3⟩ := (mem_lanes2 g h (by omega)).mp hl
    have := turns_len g (by omega) h2 h3
    have := ho (lst l) (walk_rg g h3 (by omega) _ (lst_mem (by intro e; rw [e] at h1; simp at h1; omega)))
    split
    · rename_i c; rw [if_pos c] at *; omega
    · rename_i c; rw [if_neg c] at *; omega
  rw [← hp, ← flatMap_len]
  have e : ((lanes2 nb n x y).flatMap (turnsL nb)).length = ((lanes2 nb n x y).flatMap fun l => (turnsL nb l).map fun p => (l, p)).length := by
    rw [flatMap_len, flatMap_len]
    congr 1
    exact List.map_congr_left fun l _ => by rw [List.length_map]
  rw [e]
  refine even_of_inv (fun lp : List Int × Int => (turnL lp.1 lp.2, lp.2)) _ _ (Nat.le_refl _) ?_ ?_
  · refine flatMap_nodup hd (fun l _ => map_nodup ((g.nd _).filter _) fun a b _ _ e => (Prod.mk.inj e).2) fun l m z _ _ h1 h2 => ?_
    obtain ⟨_, _, rfl⟩ := List.mem_map.mp h1
    obtain ⟨_, _, e⟩ := List.mem_map.mp h2
    exact (Prod.mk.inj e).1.symm
  · intro z hz
    obtain ⟨l, hl, hz⟩ := List.mem_flatMap.mp hz
    obtain ⟨p, hp, rfl⟩ := List.mem_map.mp hz
    obtain ⟨⟨r, h0⟩, h1, h2, h3⟩ := (mem_lanes2 g h (by omega)).mp hl
    have hpl : p ∈ l := lane_full h2 h1 (walk_rg g h3 (by omega)) (g.rg _ _ (List.mem_filter.mp hp).1)
    have T := turn_ok g h2 h3 hpl hp
    obtain ⟨r', h4⟩ := T.two _ _ _ h0
    refine ⟨List.mem_flatMap.mpr ⟨turnL l p, (mem_lanes2 g h (by omega)).mpr ⟨⟨r', h4⟩, by rw [T.len, h1], T.nd, T.wk⟩, List.mem_map.mpr ⟨p, T.trn, rfl⟩⟩, ?_, ?_⟩
    · show (turnL (turnL l p) p, p) = (l, p)
      rw [T.back]
    · intro e
      exact T.ne (Prod.mk.inj e).1
/-! ### rounds -/
/-- the way over places in order, from one of them -/
def rot (l : List Int) (c : Int) : List Int := l.dropWhile (fun x => !decide (x = c)) ++ l.takeWhile (fun x => !decide (x = c))
def flip : List Int → List Int
  | [] => []
  | a :: w => a :: w.reverse
def snd (l : List Int) : Int := l.getD 1 0
theorem rot_at {c : Int} : ∀ {t v : List Int}, c ∉ t → rot (t ++ c :: v) c = c :: v ++ t
  | [], v, _ => by simp [rot]
  | a :: t, v, h => by
    have h1 : ¬ a = c := fun e => h (by simp [e])
    have h2 : c ∉ t := fun e => h (by simp [e])
    have ih := rot_at (t := t) (v := v) h2
    unfold rot at ih ⊢
    have q1 : ∀ t : List Int, c ∉ t → (t ++ c :: v).dropWhile (fun x => !decide (x = c)) = c :: v := fun t => by
      induction t with
      | nil => intro _; simp
      | cons b t ih => intro h; rw [List.cons_append, List.dropWhile_cons, if_pos (by simp; exact fun e => h (by simp [e])), ih fun e => h (by simp [e])]
    have q2 : ∀ t : List Int, c ∉ t → (t ++ c :: v).takeWhile (fun x => !decide (x = c)) = t := fun t => by
      induction t with
      | nil => intro _; simp
      | cons b t ih => intro h; rw [List.cons_append, List.takeWhile_cons, if_pos (by simp; exact fun e => h (by simp [e])), ih fun e => h (by simp [e])]
    rw [q1 _ h, q2 _ h]
/-- a round, from any place -/
structure Cyc (nb : Int → List Int) (n : Nat) (l : List Int) : Prop where
  nd : l.Nodup
  len : l.length = n
  wk : walk nb l
  cl : closedL nb l = true
theorem closed_iff {l : List Int} : closedL nb l = true ↔ fst l ∈ nb (lst l) := by unfold closedL; simp
theorem Cyc.rot (g : Gph nb n) {l : List Int} {c : Int} (h : Cyc nb n l) (hc : c ∈ l) : Cyc nb n (rot l c) := by
  obtain ⟨t, v, rfl, ht⟩ := split_at hc
  rw [rot_at ht]
  have hp : (c :: v ++ t).Perm (t ++ c :: v) := List.perm_append_comm
  refine ⟨hp.nodup_iff.mpr h.nd, by rw [hp.length_eq]; exact h.len, ?_, ?_⟩
  · cases t with
    | nil => simpa using h.wk
    | cons a t =>
      have w := h.wk
      obtain ⟨w1, w2⟩ := walk_at.mp w
      have k := closed_iff.mp h.cl
      rw [lst_app (by simp)] at k
      have k : a ∈ nb (lst (c :: v)) := k
      have w3 : walk nb (a :: t) := by
        have : a :: t ++ [c] = (a :: t) ++ [c] := rfl
        have e : a :: t = (a :: t).dropLast ++ [(a :: t).getLast (by simp)] := (List.dropLast_concat_getLast _).symm
        rw [e] at w1 ⊢
        rw [List.append_assoc] at w1
        exact (walk_snoc.mp w1).1
      obtain ⟨u, z, e⟩ : ∃ u z, c :: v = u ++ [z] := ⟨(c :: v).dropLast, (c :: v).getLast (by simp), (List.dropLast_concat_getLast _).symm⟩
      rw [e] at k w2 ⊢
      rw [lst_append] at k
      rw [List.append_assoc]
      exact walk_app.mpr ⟨w2, k, w3⟩
  · refine closed_iff.mpr ?_
    cases t with
    | nil => simpa using closed_iff.mp h.cl
    | cons a t =>
      rw [lst_app (by simp)]
      show c ∈ nb _
      have w := h.wk
      have e : a :: t = (a :: t).dropLast ++ [lst (a :: t)] := by
        have : lst (a :: t) = (a :: t).getLast (by simp) := by unfold lst; rw [List.getLast?_eq_some_getLast (by simp)]; rfl
        rw [this]
        exact (List.dropLast_concat_getLast _).symm
      rw [e, List.append_assoc] at w
      exact (walk_app.mp w).2.1
theorem Cyc.flip (g : Gph nb n) {l : List Int} (h : Cyc nb n l) : Cyc nb n (flip l) := by
  cases l with
  | nil => exact h
  | cons a w =>
    cases w with
    | nil => exact h
    | cons b w =>
      have hp : (a :: (b :: w).reverse).Perm (a :: b :: w) := (List.reverse_perm _).cons a
      have k := closed_iff.mp h.cl
      have k : a ∈ nb (lst (a :: b :: w)) := k
      rw [lst_cons (by simp)] at k
      refine ⟨hp.nodup_iff.mpr h.nd, by rw [← h.len]; exact hp.length_eq, ?_, ?_⟩
      · show walk nb (a :: (b :: w).reverse)
        have wr := walk_rev g h.wk.2
        obtain ⟨u, z, e⟩ : ∃ u z, b :: w = u ++ [z] := ⟨(b :: w).dropLast, (b :: w).getLast (by simp), (List.dropLast_concat_getLast _).symm⟩
        rw [e] at k wr ⊢
        rw [lst_append] at k
        rw [List.reverse_append] at wr ⊢
        exact ⟨g.sym _ _ k, wr⟩
      · refine closed_iff.mpr ?_
        show a ∈ nb (lst (a :: (b :: w).reverse))
        rw [lst_cons (by simp), List.reverse_cons, lst_append]
        exact g.sym _ _ h.wk.1
theorem flip_flip (l : List Int) : flip (flip l) = l := by
  cases l with
  | nil => rfl
  | cons a w => show a :: w.reverse.reverse = _; rw [List.reverse_reverse]
theorem fst_flip (l : List Int) : fst (flip l) = fst l := by cases l <;> rfl
theorem flip_perm (l : List Int) : (flip l).Perm l := by
  cases l with
  | nil => exact .refl _
  | cons a w => exact (List.reverse_perm _).cons a
theorem rot_perm {l : List Int} {c : Int} (hc : c ∈ l) : (rot l c).Perm l := by
  obtain ⟨t, v, rfl, ht⟩ := split_at hc
  rw [rot_at ht]
  exact List.perm_append_comm
theorem fst_rot {l : List Int} {c : Int} (hc : c ∈ l) : fst (rot l c) = c := by
  obtain ⟨t, v, rfl, ht⟩ := split_at hc
  rw [rot_at ht]; rfl
theorem snd_flip {a b : Int} {w : List Int} : snd (flip (a :: b :: w)) = lst (b :: w) := by
  show ((b :: w).reverse).getD 0 0 = _
  unfold lst
  rw [List.getD_eq_getElem?_getD, ← List.head?_eq_getElem?, List.head?_reverse]
theorem lst_flip {a b : Int} {w : List Int} : lst (flip (a :: b :: w)) = b := by
  show lst (a :: (b :: w).reverse) = b
  rw [lst_cons (by simp), List.reverse_cons, lst_append]
/-- round again -/
theorem rot_rot {l : List Int} {a c : Int} (hn : l.Nodup) (ha : fst l = a) (hc : c ∈ l) : rot (rot l c) a = l := by
  obtain ⟨t, v, rfl, ht⟩ := split_at hc
  rw [rot_at ht]
  cases t with
  | nil =>
    have : c = a := ha
    subst this
    have := rot_at (c := c) (t := []) (v := v) (by simp)
    simpa using this
  | cons b t =>
    have : b = a := ha
    subst this
    have h : b ∉ c :: v := fun z => by
      rw [List.nodup_append] at hn
      exact hn.2.2 b (by simp) b z rfl
    rw [rot_at h]
theorem rot_flip_rot {l : List Int} {a c : Int} (hn : l.Nodup) (ha : fst l = a) (hc : c ∈ l) : rot (flip (rot l c)) a = flip l := by
  obtain ⟨t, v, rfl, ht⟩ := split_at hc
  rw [rot_at ht]
  cases t with
  | nil =>
    have : c = a := ha
    subst this
    have := rot_at (c := c) (t := []) (v := v.reverse) (by simp)
    simpa [flip] using this
  | cons b t =>
    have : b = a := ha
    subst this
    have h : b ∉ c :: t.reverse := fun z => by
      rw [List.cons_append, List.nodup_cons] at hn
      rcases List.mem_cons.mp z with z | z
      · exact hn.1 (by simp [z])
      · exact hn.1 (by simp at z; simp [z])
    have e : flip (c :: v ++ b :: t) = c :: t.reverse ++ b :: v.reverse := by simp [flip]
    rw [e, rot_at h]
    simp [flip]
def asR (l : List Int) : List Int := if snd (rot l 0) < lst (rot l 0) then rot l 0 else flip (rot l 0)
def alongL (l : List Int) (a b : Int) : List Int := if snd (rot l a) = b then rot l a else flip (rot l a)
/-- a round, as it is told -/
structure Rnd (nb : Int → List Int) (n : Nat) (l : List Int) : Prop extends Cyc nb n l where
  f0 : fst l = 0
  asc : snd l < lst l
theorem three {l : List Int} (h : 3 ≤ l.length) : ∃ a b c w, l = a :: b :: c :: w := by
  match l, h with
  | a :: b :: c :: w, _ => exact ⟨a, b, c, w, rfl⟩
theorem snd_ne_lst {l : List Int} (h : 3 ≤ l.length) (hn : l.Nodup) : snd l ≠ lst l := by
  obtain ⟨a, b, c, w, rfl⟩ := three h
  show b ≠ _
  rw [lst_cons (by simp), lst_cons (by simp)]
  intro e
  exact (List.nodup_cons.mp (List.nodup_cons.mp hn).2).1 (e ▸ lst_mem (by simp))
theorem asR_ok (g : Gph nb n) (hn : 3 ≤ n) {l : List Int} (h : Cyc nb n l) (h0 : (0 : Int) ∈ l) : Rnd nb n (asR l) := by
  have r := h.rot g h0
  have f := fst_rot h0
  unfold asR
  split
  · rename_i c; exact ⟨r, f, c⟩
  · rename_i c
    refine ⟨r.flip g, by rw [fst_flip, f], ?_⟩
    have := snd_ne_lst (by rw [r.len]; exact hn) r.nd
    obtain ⟨a, b, c2, w, e⟩ := three (l := rot l 0) (by rw [r.len]; exact hn)
    rw [e] at c this ⊢
    rw [snd_flip, lst_flip]
    have e2 : lst (a :: b :: c2 :: w) = lst (b :: c2 :: w) := lst_cons (by simp)
    rw [e2] at c this
    have e3 : snd (a :: b :: c2 :: w) = b := rfl
    rw [e3] at c this
    omega
/-- two places are next to one another, either way -/
def nextTo (l : List Int) (a b : Int) : Prop := snd (rot l a) = b ∨ lst (rot l a) = b
theorem along_ok (g : Gph nb n) (hn : 3 ≤ n) {l : List Int} {a b : Int} (h : Cyc nb n l) (ha : a ∈ l) (hx : nextTo l a b) : Cyc nb n (alongL l a b) ∧ fst (alongL l a b) = a ∧ snd (alongL l a b) = b := by
  have r := h.rot g ha
  have f := fst_rot ha
  unfold alongL
  split
  · rename_i c; exact ⟨r, f, c⟩
  · rename_i c
    refine ⟨r.flip g, by rw [fst_flip, f], ?_⟩
    obtain ⟨x, y, z, w, e⟩ := three (l := rot l a) (by rw [r.len]; exact hn)
    have hx := hx.resolve_left c
    rw [e] at hx ⊢
    rw [snd_flip]
    rw [lst_cons (by simp)] at hx
    exact hx
theorem asR_along (g : Gph nb n) (hn : 3 ≤ n) {r : List Int} {a b : Int} (h : Rnd nb n r) (ha : a ∈ r) : asR (alongL r a b) = r := by
  have h0 := h.f0
  have hl := h.asc
  have e1 : rot (rot r a) 0 = r := rot_rot h.nd h0 ha
  have e2 : rot (flip (rot r a)) 0 = flip r := rot_flip_rot h.nd h0 ha
  unfold alongL
  split
  · unfold asR; rw [e1, if_pos hl]
  · unfold asR
    rw [e2]
    obtain ⟨x, y, z, w, e⟩ := three (l := r) (by rw [h.len]; exact hn)
    rw [if_neg, flip_flip]
    rw [e] at hl ⊢
    rw [snd_flip, lst_flip]
    rw [lst_cons (by simp)] at hl
    have : snd (x :: y :: z :: w) = y := rfl
    rw [this] at hl
    omega
theorem along_asR (g : Gph nb n) (hn : 3 ≤ n) {l : List Int} {a b : Int} (h : Cyc nb n l) (h0 : (0 : Int) ∈ l) (ha : fst l = a) (hb : snd l = b) : alongL (asR l) a b = l := by
  have e1 : rot (rot l 0) a = l := rot_rot h.nd ha h0
  have e2 : rot (flip (rot l 0)) a = flip l := rot_flip_rot h.nd ha h0
  unfold asR
  split
  · unfold alongL; rw [e1, if_pos hb]
  · unfold alongL
    rw [e2]
    obtain ⟨x, y, z, w, e⟩ := three (l := l) (by rw [h.len]; exact hn)
    rw [if_neg, flip_flip]
    rw [← hb]
    have := snd_ne_lst (by rw [h.len]; exact hn) h.nd
    rw [e] at this ⊢
    rw [snd_flip]
    rw [lst_cons (by simp)] at this
    exact fun z => this z.symm
theorem next_asR (g : Gph nb n) (hn : 3 ≤ n) {l : List Int} {a b : Int} (h : Cyc nb n l) (h0 : (0 : Int) ∈ l) (ha : fst l = a) (hb : snd l = b) : nextTo (asR l) a b := by
  have e1 : rot (rot l 0) a = l := rot_rot h.nd ha h0
  have e2 : rot (flip (rot l 0)) a = flip l := rot_flip_rot h.nd ha h0
  unfold asR
  split
  · exact .inl (by rw [e1]; exact hb)
  · right
    rw [e2]
    obtain ⟨x, y, z, w, e⟩ := three (l := l) (by rw [h.len]; exact hn)
    rw [e] at hb ⊢
    rw [lst_flip]
    exact hb
/-- all rounds -/
def roundsL (nb : Int → List Int) (n : Nat) : List (List Int) := (ways nb (n - 1) [0]).filter fun l => decide (snd l < lst l) && closedL nb l
theorem mem_roundsL (g : Gph nb n) (hn : 3 ≤ n) {l : List Int} : l ∈ roundsL nb n ↔ Rnd nb n l := by
  unfold roundsL
  rw [List.mem_filter, ways_iff (by simp) (by simp) (by simp), Bool.and_eq_true, decide_eq_true_eq]
  constructor
  · rintro ⟨⟨t, rfl, h1, h2, h3⟩, h4, h5⟩
    exact ⟨⟨h2, by simp; omega, h3, h5⟩, rfl, h4⟩
  · intro h
    obtain ⟨a, b, c, w, e⟩ := three (l := l) (by rw [h.len]; exact hn)
    have h0 : fst l = 0 := h.f0
    have e0 : a = 0 := by rw [e] at h0; exact h0
    subst e0
    have hl := h.len
    refine ⟨⟨b :: c :: w, e, by rw [e] at hl; simp at hl ⊢; omega, h.nd, h.wk⟩, h.asc, h.cl⟩
theorem roundsL_nodup (g : Gph nb n) : (roundsL nb n).Nodup := (ways_nodup g _ _).filter _
theorem Cyc.mem (g : Gph nb n) (hn : 3 ≤ n) {l : List Int} (h : Cyc nb n l) {p : Int} : p ∈ l ↔ 0 ≤ p ∧ p < n := by
  have q := walk_rg g h.wk (by rw [h.len]; omega)
  exact ⟨q p, fun z => lane_full h.nd h.len q z⟩
instance (l : List Int) (a b : Int) : Decidable (nextTo l a b) := inferInstanceAs (Decidable (_ ∨ _))
/-- through each tie there go an even number of rounds -/
theorem even_rounds (g : Gph nb n) (hn : 3 ≤ n) (ho : ∀ p : Int, 0 ≤ p ∧ p < n → (nb p).length % 2 = 1) {x y : Int} (h : y ∈ nb x) : ((roundsL nb n).filter fun r => decide (nextTo r x y)).length % 2 = 0 := by
  have hx := g.rg _ _ (g.sym _ _ h)
  have h0 : (0 : Int) ≤ 0 ∧ (0 : Int) < n := by omega
  rw [← even_closed g hn ho h]
  have hm : ∀ l, l ∈ (lanes2 nb n x y).filter (closedL nb) ↔ Cyc nb n l ∧ fst l = x ∧ snd l = y := fun l => by
    rw [List.mem_filter, mem_lanes2 g h (by omega)]
    constructor
    · rintro ⟨⟨⟨r, rfl⟩, h1, h2, h3⟩, h4⟩
      exact ⟨⟨h2, h1, h3, h4⟩, rfl, rfl⟩
    · rintro ⟨h1, h2, h3⟩
      obtain ⟨a, b, c, w, e⟩ := three (l := l) (by rw [h1.len]; exact hn)
      have k1 : a = x := by rw [e] at h2; exact h2
      have k2 : b = y := by rw [e] at h3; exact h3
      subst k1 k2
      exact ⟨⟨⟨_, e⟩, h1.len, h1.nd, h1.wk⟩, h1.cl⟩
  have hr : ∀ l, l ∈ (roundsL nb n).filter (fun r => decide (nextTo r x y)) ↔ Rnd nb n l ∧ nextTo l x y := fun l => by
    rw [List.mem_filter, mem_roundsL g hn, decide_eq_true_eq]
  have n1 : ((lanes2 nb n x y).filter (closedL nb)).Nodup := (ways_nodup g _ _).filter _
  have n2 : ((roundsL nb n).filter fun r => decide (nextTo r x y)).Nodup := (roundsL_nodup g).filter _
  have a1 : ((roundsL nb n).filter fun r => decide (nextTo r x y)).length ≤ ((lanes2 nb n x y).filter (closedL nb)).length := by
    have := nodup_sub_len (xs := ((roundsL nb n).filter fun r => decide (nextTo r x y)).map fun r => alongL r x y) (ys := (lanes2 nb n x y).filter (closedL nb)) (map_nodup n2 fun r s hr1 hs1 e => by
      have q1 := ((hr r).mp hr1).1
      have q2 := ((hr s).mp hs1).1
      rw [← asR_along g hn q1 ((q1.mem g hn).mpr hx) (b := y), e, asR_along g hn q2 ((q2.mem g hn).mpr hx)]) fun l hl => by
        obtain ⟨r, hr1, rfl⟩ := List.mem_map.mp hl
        obtain ⟨q1, q2⟩ := (hr r).mp hr1
        exact (hm _).mpr (along_ok g hn q1.toCyc ((q1.mem g hn).mpr hx) q2)
    rwa [List.length_map] at this
  have a2 : ((lanes2 nb n x y).filter (closedL nb)).length ≤ ((roundsL nb n).filter fun r => decide (nextTo r x y)).length := by
    have := nodup_sub_len (xs := ((lanes2 nb n x y).filter (closedL nb)).map asR) (ys := (roundsL nb n).filter fun r => decide (nextTo r x y)) (map_nodup n1 fun r s hr1 hs1 e => by
      obtain ⟨q1, q2, q3⟩ := (hm r).mp hr1
      obtain ⟨p1, p2, p3⟩ := (hm s).mp hs1
      rw [← along_asR g hn q1 ((q1.mem g hn).mpr h0) q2 q3, e, along_asR g hn p1 ((p1.mem g hn).mpr h0) p2 p3]) fun l hl => by
        obtain ⟨r, hr1, rfl⟩ := List.mem_map.mp hl
        obtain ⟨q1, q2, q3⟩ := (hm r).mp hr1
        exact (hr _).mpr ⟨asR_ok g hn q1 ((q1.mem g hn).mpr h0), next_asR g hn q1 ((q1.mem g hn).mpr h0) q2 q3⟩
    rwa [List.length_map] at this
  omega
end HD

namespace EL
open PySem PySem.Spec PyProof.Rows L2
/-! ### comprehensions over what a name owns -/
def CSrc.own (k n : Nat) : CSrc := ⟨n, fun i ρ' => match ρ'[k]? with
      | some (.own _ (.lst ys)) => if ys.length = n then ys[i]? else none
      | _ => none, fun ρ' => match ρ'[k]? with
      | some (.own _ (.lst ys)) => decide (ys.length = n)
      | _ => false, some k⟩
theorem srcO_own {k : Nat} {ρ : EL.Env} {io : Bool} {xs : List D} (h : ρ[k]? = some (.own io (.lst xs))) : srcO (.slot k) ρ = some (CSrc.own k xs.length) := by
  unfold srcO CSrc.own
  simp only [h] <;> rfl
theorem own_it {k : Nat} {ρ : EL.Env} {io : Bool} {xs : List D} (h : ρ[k]? = some (.own io (.lst xs))) (i : Nat) : (CSrc.own k xs.length).it i ρ = xs[i]? := by
  unfold CSrc.own
  simp only [h, if_true]
theorem own_fin {k : Nat} {ρ : EL.Env} {io : Bool} {xs : List D} (h : ρ[k]? = some (.own io (.lst xs))) : (CSrc.own k xs.length).fin ρ = true := by
  unfold CSrc.own
  simp only [h, decide_true]
theorem compPureC {α : Type} {xs : List α} {mk : α → D} {c : CSrc} {vs : List Nat} {tg : Tg} {ft : EL.Env → Out Bool} {fe : EL.Env → Out Rv} {ρ : EL.Env} (p : α → Bool) (g : α → D) (hn : xs.length ≤ 16777216)
    (hc : c.n = xs.length) (hi : ∀ i, c.it i ρ = (xs.map mk)[i]?) (hf : c.fin ρ = true)
    (step : ∀ x ∈ xs, ∃ ρ1, tg (mk x) ρ = some ρ1 ∧ ft ρ1 = .ok (p x) ρ1 ∧ (p x = true → fe ρ1 = .ok (.val (g x)) ρ1) ∧ wipeE vs ρ1 = ρ) :
    compN c vs tg ft fe c.n 0 [] ρ = .ok ((xs.filter p).map g) ρ := by
  rw [hc]
  obtain ⟨zs, ρ', h1, h2⟩ := compN_go (c := c) (vs := vs) (tg := tg) (ft := ft) (fe := fe) (n := xs.length) hn (fun i acc ρ2 => ρ2 = ρ ∧ acc = ((xs.take i).filter p).map g) (fun i acc ρ2 hi2 h => by
    obtain ⟨rfl, rfl⟩ := h
    obtain ⟨ρ1, h1, h2, h3, h4⟩ := step xs[i] (List.getElem_mem hi2)
    refine ⟨mk xs[i], ρ1, by rw [hi]; simp [List.getElem?_eq_getElem hi2], h1, ?_⟩
    cases q : p xs[i] with
    | false => exact .inl ⟨ρ1, by rw [h2, q], h4, by rw [List.take_succ_eq_append_getElem hi2, List.filter_append, List.filter_cons, if_neg (by simp [q]), List.filter_nil, List.append_nil]⟩
    | true => exact .inr ⟨ρ1, g xs[i], ρ1, by rw [h2, q], h3 q, h4, by rw [List.take_succ_eq_append_getElem hi2, List.filter_append, List.filter_cons, if_pos q, List.filter_nil, List.map_append]; rfl⟩) (fun _ ρ2 h => by rw [h.1]; exact hf) xs.length 0 [] ρ (by omega) (Nat.zero_le _) ⟨rfl, by simp⟩
  obtain ⟨rfl, rfl⟩ := h2
  rw [h1, List.take_length]
theorem eCompL_own {α : Type} {xs : List α} {mk : α → D} {k : Nat} {io : Bool} {vs : List Nat} {tg : Tg} {ft : EL.Env → Out Bool} {fe : EL.Env → Out Rv} {ρ ρ0 : EL.Env} (p : α → Bool) (g : α → D) (hn : xs.length ≤ 16777216) (h : ρ[k]? = some (.own io (.lst (xs.map mk)))) (hk : vs.contains k = false) (hw : wipeE vs ρ = ρ0)
    (h0 : ρ0[k]? = some (.own io (.lst (xs.map mk))))
    (step : ∀ x ∈ xs, ∃ ρ1, tg (mk x) ρ0 = some ρ1 ∧ ft ρ1 = .ok (p x) ρ1 ∧ (p x = true → fe ρ1 = .ok (.val (g x)) ρ1) ∧ wipeE vs ρ1 = ρ0) :
    eCompL (iSeq (eName k)) vs tg ft fe ρ = .ok ((xs.filter p).map g) (putBack ρ vs ρ0) := by
  unfold eCompL
  have e1 : iSeq (eName k) ρ = .ok (CSrc.own k (xs.map mk).length) ρ := by
    show (eName k ρ).bind _ = _
    have : eName k ρ = .ok (.slot k) ρ := by unfold eName; rw [h]
    rw [this, Out.bind_ok, srcO_own h]
    rfl
  rw [e1, Out.bind_ok, if_pos (by show (Option.all _ (some k)) = true; simp only [Option.all_some, hk, Bool.not_false]), hw]
  rw [compPureC (c := CSrc.own k (xs.map mk).length) p g hn (by show (xs.map mk).length = _; rw [List.length_map]) (fun i => own_it h0 i) (own_fin h0) step]
/-- all of them -/
theorem eCompL_ownAll {α : Type} {xs : List α} {mk : α → D} {k : Nat} {io : Bool} {vs : List Nat} {tg : Tg} {fe : EL.Env → Out Rv} {ρ ρ0 : EL.Env} (g : α → D) (hn : xs.length ≤ 16777216) (h : ρ[k]? = some (.own io (.lst (xs.map mk)))) (hk : vs.contains k = false) (hw : wipeE vs ρ = ρ0)
    (h0 : ρ0[k]? = some (.own io (.lst (xs.map mk))))
    (step : ∀ x ∈ xs, ∃ ρ1, tg (mk x) ρ0 = some ρ1 ∧ fe ρ1 = .ok (.val (g x)) ρ1 ∧ wipeE vs ρ1 = ρ0) :
    eCompL (iSeq (eName k)) vs tg tYesB fe ρ = .ok (xs.map g) (putBack ρ vs ρ0) := by
  rw [eCompL_own (ft := tYesB) (fun _ => true) g hn h hk hw h0 fun x hx => let ⟨ρ1, a, b, c⟩ := step x hx; ⟨ρ1, a, rfl, fun _ => b, c⟩, List.filter_eq_self.mpr fun _ _ => rfl]
theorem iRng1_of {f : EL.Env → Out Rv} {ρ ρ' : EL.Env} {K : Int} {C : CSrc} (h : f ρ = .ok (.val (.int K)) ρ') (hr : rng1 [.val (.int K)] = some C) : iRng rng1 (aCons f aNil) ρ = .ok C ρ' := by
  rw [iRng_e, aCons_e, h]
  simp only [Out.bind_ok, aNil_e, hr, Out.of_some]
theorem iRng2_of {f g : EL.Env → Out Rv} {ρ ρ' ρ'' : EL.Env} {K L : Int} {C : CSrc} (h : f ρ = .ok (.val (.int K)) ρ') (h2 : g ρ' = .ok (.val (.int L)) ρ'') (hr : rng2 [.val (.int K), .val (.int L)] = some C) : iRng rng2 (aCons f (aCons g aNil)) ρ = .ok C ρ'' := by
  rw [iRng_e, aCons_e, h]
  simp only [Out.bind_ok, aCons_e, h2, aNil_e, hr, Out.of_some]
/-! ### calls -/
section
variable {m : List EL.Slot → FR} {f g h : EL.Env → Out Rv} {ρ ρ1 ρ2 ρ3 : EL.Env} {d e q d' e' q' r : D} {c : String}
theorem call1 (hf : f ρ = .ok (.val d) ρ1) (hm : m [.val d] = .ok r [.val d']) : eNew (nCall m (aCons f aNil)) ρ = .ok (.val r) ρ1 := by
  simp [hf, hm]
theorem call2 (hf : f ρ = .ok (.val d) ρ1) (hg : g ρ1 = .ok (.val e) ρ2) (hm : m [.val d, .val e] = .ok r [.val d', .val e']) : eNew (nCall m (aCons f (aCons g aNil))) ρ = .ok (.val r) ρ2 := by
  simp [hf, hg, hm]
theorem call3 (hf : f ρ = .ok (.val d) ρ1) (hg : g ρ1 = .ok (.val e) ρ2) (hh : h ρ2 = .ok (.val q) ρ3) (hm : m [.val d, .val e, .val q] = .ok r [.val d', .val e', .val q']) : eNew (nCall m (aCons f (aCons g (aCons h aNil)))) ρ = .ok (.val r) ρ3 := by
  simp [hf, hg, hh, hm]
theorem callE1 (hf : f ρ = .ok (.val d) ρ1) (hm : m [.val d] = .err c [.val d']) : eNew (nCall m (aCons f aNil)) ρ = .err c ρ1 := by
  simp [hf, hm]
theorem callE2 (hf : f ρ = .ok (.val d) ρ1) (hg : g ρ1 = .ok (.val e) ρ2) (hm : m [.val d, .val e] = .err c [.val d', .val e']) : eNew (nCall m (aCons f (aCons g aNil))) ρ = .err c ρ2 := by
  simp [hf, hg, hm]
theorem callE3 (hf : f ρ = .ok (.val d) ρ1) (hg : g ρ1 = .ok (.val e) ρ2) (hh : h ρ2 = .ok (.val q) ρ3) (hm : m [.val d, .val e, .val q] = .err c [.val d', .val e', .val q']) : eNew (nCall m (aCons f (aCons g (aCons h aNil)))) ρ = .err c ρ3 := by
  simp [hf, hg, hh, hm]
theorem iSeq_lst {ds : List D} (hf : f ρ = .ok (.val (.lst ds)) ρ1) : iSeq f ρ = .ok (.of ds) ρ1 := by
  unfold iSeq
  rw [hf, Out.bind_ok, srcO_lst, Out.of_some]
theorem iSeq_tup {ds : List D} (hf : f ρ = .ok (.val (.tup ds)) ρ1) : iSeq f ρ = .ok (.of ds) ρ1 := by
  unfold iSeq
  rw [hf, Out.bind_ok, srcO_tup, Out.of_some]
end
end EL
namespace HD
open PySem PySem.Spec PyProof.Rows L2 EL LamX
theorem atFst_erase {k : Int} : ∀ {B : List Int}, k ∈ B → ∃ j, atFst k B = some j ∧ B.eraseIdx j = B.erase k
  | b :: B, h => by
    by_cases e : b = k
    · subst e
      exact ⟨0, by simp [atFst], by simp⟩
    · obtain ⟨j, h1, h2⟩ := atFst_erase ((List.mem_cons.mp h).resolve_left fun z => e z.symm)
      exact ⟨j + 1, by simp [atFst, e, h1], by rw [List.eraseIdx_cons_succ, h2, List.erase_cons_tail (by simpa using e)]⟩
theorem remO_int {B : List Int} {k : Int} (h : k ∈ B) : remO (B.map D.int) [.int k] = some (.non, (B.erase k).map D.int) := by
  obtain ⟨j, h1, h2⟩ := atFst_erase h
  unfold remO
  simp [intsOf_map, h1, h2]
theorem map_erI {α β : Type} (f : α → β) : ∀ (l : List α) (j : Nat), (l.map f).eraseIdx j = (l.eraseIdx j).map f
  | [], _ => by simp
  | a :: l, 0 => by simp
  | a :: l, j + 1 => by simp [map_erI f l j]
theorem popO_int {B : List Int} {j : Int} (hl : B.length ≤ 16777216) (h : 0 ≤ j ∧ j < B.length) : popO (B.map D.int) [.int j] = some (.int (B[j.toNat]'(by omega)), (B.eraseIdx j.toNat).map D.int) := by
  unfold popO
  have e : ixN (B.map D.int).length j = some j.toNat := by
    unfold ixN
    rw [if_pos h.1, if_pos (by rw [List.length_map]; omega)]
  have e2 : ((B.map D.int)[j.toNat]?) = some (.int (B[j.toNat]'(by omega))) := by simp [List.getElem?_eq_getElem (show j.toNat < B.length by omega)]
  dsimp only
  rw [if_pos (by simpa using hl), e, Option.bind_some, e2, Option.map_some]
  rw [map_erI]
theorem memd_ties (t : Int × Int) (ts : List (Int × Int)) : memd (tieD t) (ts.map tieD) = decide (t ∈ ts) := by
  unfold memd
  rw [List.any_map, Bool.eq_iff_iff, List.any_eq_true, decide_eq_true_eq]
  constructor
  · rintro ⟨u, hu, e⟩
    have e : eqd (tieD u) (tieD t) = true := e
    rw [eqd_tie, eqd_int_int, eqd_int_int] at e
    simp at e
    have : u = t := Prod.ext e.1 e.2
    exact this ▸ hu
  · intro h
    exact ⟨t, h, by show eqd (tieD t) (tieD t) = true; rw [eqd_tie, eqd_int_int, eqd_int_int]; simp⟩
theorem nin_ties (t : Int × Int) (ts : List (Int × Int)) : ninD (tieD t) (.lst (ts.map tieD)) = some (.bl (!decide (t ∈ ts))) := by
  rw [ninD_l (by simp) (okd_ties ts 58), memd_ties]
theorem law_tie_eq (a b : Int) : m__law_tie [.val (.int a), .val (.int b)] = .ok (tieD (tie a b)) [.val (.int a), .val (.int b)] := by
  unfold m__law_tie
  rw [show ∀ fb, mOf 2 2 fb [.val (.int a), .val (.int b)] = _ from fun fb => mOf_eq rfl]
  by_cases h : a < b
  · have : tie a b = (a, b) := if_pos h
    simp [b__law_tie, h, storeL, this]
  · have : tie a b = (b, a) := if_neg h
    simp [b__law_tie, h, storeL, this]
/-- the written webs -/
def K4 : D := .tup [.int 4, .tup ((pairsI 4).map tieD)]
def prismT : List (Int × Int) := [(0, 1), (0, 2), (0, 3), (1, 2), (1, 4), (2, 5), (3, 4), (3, 5), (4, 5)]
def crossT : List (Int × Int) := [(0, 1), (0, 3), (0, 5), (1, 2), (1, 4), (2, 3), (2, 5), (3, 4), (4, 5)]
def cubeT : List (Int × Int) := [(0, 1), (0, 3), (0, 4), (1, 2), (1, 5), (2, 3), (2, 6), (3, 7), (4, 5), (4, 7), (5, 6), (6, 7)]
def writtenW : List (Int × List (Int × Int)) := [(4, pairsI 4), (6, prismT), (6, crossT), (4, [(0, 1), (0, 2), (0, 3)]), (6, pairsI 6), (8, cubeT)]
abbrev wD (w : Int × List (Int × Int)) : D := webD w.1 w.2
theorem written_eq : m__law_written [] = .ok (.lst (writtenW.map wD)) [] := by
  unfold m__law_written
  rw [show ∀ fb, mOf 0 4 fb [] = frOf [] (fb [.un, .un, .un, .un]) from fun fb => mOf_eq rfl]
  have e4 := pairs_eq 4 (by omega) (by omega)
  have e6 := pairs_eq 6 (by omega) (by omega)
  simp [b__law_written, storeL, e4, e6, tupleD, writtenW, prismT, crossT, cubeT, addD, addL]
end HD

namespace HD
open PySem PySem.Spec PyProof.Rows L2 EL LamX
abbrev ordFb : EL.Env → SO := (sExpr (eMeth appO 4 (aCons (eMeth popO 3 (aCons (eNew (nCall m__law_roll (aCons (eName 0) (aCons (eCallV lenD (aCons (eName 3) aNil)) aNil)))) aNil)) aNil)))
abbrev env3 (a b : Int) (mo : D) (n : Int) (L O : List Int) (s : EL.Slot) : EL.Env := [drS a b, .val mo, .val (.int n), .own false (.lst (L.map .int)), .own false (.lst (O.map .int)), s, .un, .un, .un, .un, .un, .un]
theorem ord_step (a b : Int) (mo : D) (n : Int) (L O : List Int) (s : EL.Slot) (hl : 0 < L.length) (hb : L.length ≤ 100) (ho : O.length ≤ 100) :
    ∃ (j : Nat) (h : j < L.length) (a' b' : Int), ordFb (env3 a b mo n L O s) = .next (env3 a' b' mo n (L.eraseIdx j) (O ++ [L[j]]) s) := by
  obtain ⟨j, a', b', e, h1, h2⟩ := roll_ok a b L.length (by omega) (by omega)
  have ep := popO_int (B := L) (j := j) (by omega) ⟨h1, h2⟩
  have ea : appO (O.map D.int) [.int (L[j.toNat]'(by omega))] = some (.non, O.map D.int ++ [.int (L[j.toNat]'(by omega))]) := by
    show (if _ then _ else _) = _
    rw [if_pos (by rw [List.length_map]; omega)]
  exact ⟨j.toNat, by omega, a', b', by simp [e, ep, ea, mAnsw]⟩
theorem rg_eq (n : Int) (h : n ≤ 100) (h0 : 0 ≤ n) : rgO (.val (.int n)) = some (((List.range n.toNat).map fun (i : Nat) => (i : Int)).map D.int) := by
  show (if _ then _ else _) = _
  rw [if_pos (by omega)]
  simp [rgD, Function.comp_def]
theorem perm_erI {α : Type} : ∀ {l : List α} {j : Nat} (h : j < l.length), (l[j] :: l.eraseIdx j).Perm l
  | a :: l, 0, _ => by simp
  | a :: l, j + 1, h => by
    have ih := perm_erI (l := l) (j := j) (by simpa using h)
    simp only [List.getElem_cons_succ, List.eraseIdx_cons_succ]
    exact (List.Perm.swap _ _ _).trans (ih.cons a)
theorem ord_loop (a b : Int) (mo : D) (n : Nat) (hn : n ≤ 100) : ∃ (a' b' : Int) (O : List Int) (s : EL.Slot), O.Perm ((List.range n).map fun (i : Nat) => (i : Int)) ∧
    forN (.of ((List.range n).map fun (i : Nat) => D.int (0 + (i : Int)))) (gSet 5) ordFb ((List.range n).map fun (i : Nat) => D.int (0 + (i : Int))).length 0 (env3 a b mo n ((List.range n).map fun (i : Nat) => (i : Int)) [] .un) = .next (env3 a' b' mo n [] O s) := by
  obtain ⟨ρ', h1, a', b', L, O, s, hp, hl, rfl⟩ := forL (ds := (List.range n).map fun (i : Nat) => D.int (0 + (i : Int))) (tg := gSet 5) (fb := ordFb) (ρ := env3 a b mo n ((List.range n).map fun (i : Nat) => (i : Int)) [] .un)
    (fun pre ρ => ∃ a' b' L O s, (L ++ O).Perm ((List.range n).map fun (i : Nat) => (i : Int)) ∧ O.length = pre.length ∧ ρ = env3 a' b' mo n L O s) ⟨a, b, _, [], .un, by simp, rfl, rfl⟩ (fun pre d post ρ e hI => by
      obtain ⟨a', b', L, O, s, hp, hl, rfl⟩ := hI
      have hlen := hp.length_eq
      have he := congrArg List.length e
      simp at hlen he
      obtain ⟨j, hj, a2, b2, h2⟩ := ord_step a' b' mo n L O (.val d) (by omega) (by omega) (by omega)
      refine ⟨env3 a' b' mo n L O (.val d), _, rfl, h2, a2, b2, _, _, _, ?_, by simp [hl], rfl⟩
      refine List.Perm.trans ?_ hp
      have q : (L.eraseIdx j ++ (O ++ [L[j]])).Perm (L[j] :: L.eraseIdx j ++ O) := by
        rw [← List.append_assoc]
        exact (List.perm_append_comm (l₁ := L.eraseIdx j ++ O) (l₂ := [L[j]])).trans (by simp)
      exact q.trans ((perm_erI hj).append_right O))
  have hlen := hp.length_eq
  simp at hlen hl
  have : L = [] := List.length_eq_zero_iff.mp (by omega)
  subst this
  exact ⟨a', b', O, s, by simpa using hp, h1⟩
theorem atI_last {α : Type} {xs : List α} (h : xs ≠ []) : atI xs (-1) = some (xs[xs.length - 1]'(by have := List.length_pos_iff.mpr h; omega)) := by
  have hp := List.length_pos_iff.mpr h
  unfold atI ixN
  rw [if_neg (by omega), if_pos (by omega), Option.bind_some]
  have : (-1 + (xs.length : Int)).toNat = xs.length - 1 := by omega
  rw [this, List.getElem?_eq_getElem (by omega)]
/-- the ties of a way, by a comprehension -/
theorem cyc_one (s0 s1 s2 s3 s5 s6 s8 s9 s10 s11 : EL.Slot) (io : Bool) (O : List Int) (i : Nat) (hi : i < O.length) :
    eNew (nCall m__law_tie (aCons (eBin ixD (eName 4) (eName 7)) (aCons (eBin ixD (eName 4) (eBin subD (eName 7) (eK (.int 1)))) aNil))) [s0, s1, s2, s3, .own io (.lst (O.map .int)), s5, s6, .val (.int (i : Int)), s8, s9, s10, s11] = .ok (.val (tieD (tie (O.getD i 0) (if i = 0 then O.getD (O.length - 1) 0 else O.getD (i - 1) 0)))) [s0, s1, s2, s3, .own io (.lst (O.map .int)), s5, s6, .val (.int (i : Int)), s8, s9, s10, s11] := by
  have h0 : O ≠ [] := by intro z; subst z; simp at hi
  have a1 : atI (O.map D.int) (i : Int) = some (.int (O.getD i 0)) := by
    rw [atI_nat (k := i) rfl (by rw [List.length_map]; exact hi)]
    simp [List.getD_eq_getElem?_getD, List.getElem?_eq_getElem hi]
  have a2 : atI (O.map D.int) ((i : Int) - 1) = some (.int (if i = 0 then O.getD (O.length - 1) 0 else O.getD (i - 1) 0)) := by
    by_cases z : i = 0
    · subst z
      have e : ((0 : Nat) : Int) - 1 = -1 := by omega
      rw [e, atI_last (by simpa using h0), if_pos rfl]
      simp [List.getD_eq_getElem?_getD, List.getElem?_eq_getElem (show O.length - 1 < O.length by omega)]
    · rw [atI_nat (k := i - 1) (by omega) (by rw [List.length_map]; omega), if_neg z]
      simp [List.getD_eq_getElem?_getD, List.getElem?_eq_getElem (show i - 1 < O.length by omega)]
  generalize (if i = 0 then O.getD (O.length - 1) 0 else O.getD (i - 1) 0) = y at *
  generalize O.getD i 0 = x at *
  generalize O.map D.int = OD at *
  simp [a1, a2, law_tie_eq]
theorem cyc_comp (s0 s1 s3 s5 s6 s8 s9 s10 s11 : EL.Slot) (io : Bool) (O : List Int) (h0 : O ≠ []) (hl : O.length ≤ 100) :
    eCompL (iRng rng1 (aCons (eName 2) aNil)) [7] (gSet 7) tYesB (eNew (nCall m__law_tie (aCons (eBin ixD (eName 4) (eName 7)) (aCons (eBin ixD (eName 4) (eBin subD (eName 7) (eK (.int 1)))) aNil)))) [s0, s1, .val (.int O.length), s3, .own io (.lst (O.map .int)), s5, s6, .un, s8, s9, s10, s11] = .ok ((cyc O).map tieD) [s0, s1, .val (.int O.length), s3, .own io (.lst (O.map .int)), s5, s6, .un, s8, s9, s10, s11] := by
  have hp := List.length_pos_iff.mpr h0
  have h5 : iRng rng1 (aCons (eName 2) aNil) [s0, s1, .val (.int O.length), s3, .own io (.lst (O.map .int)), s5, s6, .un, s8, s9, s10, s11] = .ok (.of ((List.range O.length).map fun (i : Nat) => D.int (0 + (i : Int)))) [s0, s1, .val (.int O.length), s3, .own io (.lst (O.map .int)), s5, s6, .un, s8, s9, s10, s11] := by
    have hr := rng1_eq (j := (O.length : Int)) (k := O.length) (Int.toNat_natCast _) ⟨by omega, by omega⟩
    generalize (.of ((List.range O.length).map fun (i : Nat) => D.int (0 + (i : Int))) : CSrc) = C at *
    generalize (O.length : Int) = N at *
    generalize O.map D.int = OD
    have e : aCons (eName 2) aNil [s0, s1, .val (.int N), s3, .own io (.lst OD), s5, s6, .un, s8, s9, s10, s11] = .ok [.val (.int N)] [s0, s1, .val (.int N), s3, .own io (.lst OD), s5, s6, .un, s8, s9, s10, s11] := rfl
    rw [iRng_e, e, Out.bind_ok, hr, Out.of_some]
  have h6 : compN (.of ((List.range O.length).map fun (i : Nat) => D.int (0 + (i : Int)))) [7] (gSet 7) tYesB (eNew (nCall m__law_tie (aCons (eBin ixD (eName 4) (eName 7)) (aCons (eBin ixD (eName 4) (eBin subD (eName 7) (eK (.int 1)))) aNil)))) ((List.range O.length).map fun (i : Nat) => D.int (0 + (i : Int))).length 0 [] [s0, s1, .val (.int O.length), s3, .own io (.lst (O.map .int)), s5, s6, .un, s8, s9, s10, s11] = .ok ((cyc O).map tieD) [s0, s1, .val (.int O.length), s3, .own io (.lst (O.map .int)), s5, s6, .un, s8, s9, s10, s11] := by
    have hh := compAll (xs := List.range O.length) (mk := fun (i : Nat) => D.int (0 + (i : Int))) (vs := [7]) (tg := gSet 7) (fe := eNew (nCall m__law_tie (aCons (eBin ixD (eName 4) (eName 7)) (aCons (eBin ixD (eName 4) (eBin subD (eName 7) (eK (.int 1)))) aNil)))) (ρ := [s0, s1, .val (.int O.length), s3, .own io (.lst (O.map .int)), s5, s6, .un, s8, s9, s10, s11])
      (fun i => tieD (tie (O.getD i 0) (if i = 0 then O.getD (O.length - 1) 0 else O.getD (i - 1) 0))) (by rw [List.length_range]; omega) fun i hi => ⟨_, rfl, by
        have e : (0 : Int) + (i : Int) = (i : Int) := Int.zero_add _
        rw [e]
        exact cyc_one s0 s1 (.val (.int O.length)) s3 s5 s6 s8 s9 s10 s11 io O i (List.mem_range.mp hi), rfl⟩
    rw [hh, ← cyc_range O, List.map_map]
    rfl
  rw [eCompL_of h5 h6]
  rfl
abbrev matFb : EL.Env → SO := (sSeq (sSet 9 (eMeth popO 8 (aCons (eK (.int 0)) aNil)))
 (sSeq (sSet 10 (eFresh (eCompL (iSeq (eName 8)) [11] (gSet 11) (tBl (eBin ninD (eNew (nCall m__law_tie (aCons (eName 9) (aCons (eName 11) aNil)))) (eName 6))) (eName 11))))
 (sSeq (sIf (tBl (eBin eqD (eName 10) (eLst aNil)))
 (sRet (eNew (nCall m__law_some (aCons (eName 0) (aCons (eSl (eNew (nCall m__law_written aNil)) poNone (poSome (eK (.int 3)))) aNil)))))
 SO.next)
 (sSeq (sSet 11 (eNew (nCall m__law_some (aCons (eName 0) (aCons (eName 10) aNil)))))
 (sSeq (sExpr (eMeth remO 8 (aCons (eName 11) aNil)))
 (sExpr (eMeth appO 6 (aCons (eNew (nCall m__law_tie (aCons (eName 9) (aCons (eName 11) aNil)))) aNil))))))))
abbrev env4 (a b : Int) (mo : D) (n : Int) (s3 s4 s5 : EL.Slot) (T : List (Int × Int)) (s7 : EL.Slot) (B : List Int) (s9 s10 s11 : EL.Slot) : EL.Env := [drS a b, .val mo, .val (.int n), s3, s4, s5, .own false (.lst (T.map tieD)), s7, .own false (.lst (B.map .int)), s9, s10, s11]
theorem some_comp (a b : Int) (mo : D) (n : Int) (s3 s4 s5 : EL.Slot) (T : List (Int × Int)) (s7 : EL.Slot) (B : List Int) (one : Int) (s10 : EL.Slot) (s11 : EL.Slot) (hs : s11 = .un ∨ ∃ d, s11 = .val d) (hB : B.length ≤ 100) :
    eCompL (iSeq (eName 8)) [11] (gSet 11) (tBl (eBin ninD (eNew (nCall m__law_tie (aCons (eName 9) (aCons (eName 11) aNil)))) (eName 6))) (eName 11) (env4 a b mo n s3 s4 s5 T s7 B (.val (.int one)) s10 s11) = .ok ((B.filter fun p => !decide (tie one p ∈ T)).map D.int) (env4 a b mo n s3 s4 s5 T s7 B (.val (.int one)) s10 s11) := by
  rw [eCompL_own (xs := B) (mk := D.int) (k := 8) (io := false) (ρ0 := env4 a b mo n s3 s4 s5 T s7 B (.val (.int one)) s10 .un) (fun p => !decide (tie one p ∈ T)) D.int (by omega) rfl rfl rfl rfl fun p hp => ⟨env4 a b mo n s3 s4 s5 T s7 B (.val (.int one)) s10 (.val (.int p)), rfl, by simp [law_tie_eq, nin_ties], fun _ => by simp, rfl⟩]
  rcases hs with rfl | ⟨d, rfl⟩ <;> rfl
theorem ints_nil (xs : List Int) : eqD (.lst (xs.map .int)) (.lst []) = some (.bl xs.isEmpty) := by
  show (if _ then _ else _) = _
  rw [if_pos ⟨by rw [okd_lst, List.all_eq_true]; intro d hd; obtain ⟨i, _, rfl⟩ := List.mem_map.mp hd; simp, rfl⟩]
  cases xs <;> rfl
theorem written3 : EL.cutD (writtenW.map wD) none (some 3) = (writtenW.take 3).map wD := rfl
theorem mat_step (a b : Int) (mo : D) (n : Int) (s3 s4 s5 : EL.Slot) (T : List (Int × Int)) (s7 : EL.Slot) (B : List Int) (one : Int) (s9 s10 s11 : EL.Slot) (hs : s11 = .un ∨ ∃ d, s11 = .val d) (hB : B.length ≤ 50) (hT : T.length ≤ 100) :
    (∃ w ∈ writtenW.take 3, ∃ ρ, ∃ a' b', matFb (env4 a b mo n s3 s4 s5 T s7 (one :: B) s9 s10 s11) = .ret (.val (wD w)) (drS a' b' :: .val mo :: ρ)) ∨
    ∃ other a' b' s10', other ∈ B ∧ tie one other ∉ T ∧ matFb (env4 a b mo n s3 s4 s5 T s7 (one :: B) s9 s10 s11) = .next (env4 a' b' mo n s3 s4 s5 (T ++ [tie one other]) s7 (B.erase other) (.val (.int one)) s10' (.val (.int other))) := by
  have ep : popO ((one :: B).map D.int) [.int 0] = some (.int one, B.map D.int) := by
    have := popO_int (B := one :: B) (j := 0) (by simp; omega) (by simp)
    simpa using this
  have e1 : ∀ rest, sSeq (sSet 9 (eMeth popO 8 (aCons (eK (.int 0)) aNil))) rest (env4 a b mo n s3 s4 s5 T s7 (one :: B) s9 s10 s11) = rest (env4 a b mo n s3 s4 s5 T s7 B (.val (.int one)) s10 s11) := fun rest => by
    simp only [List.map_cons] at ep
    simp [ep, mAnsw]
  have e2 : ∀ rest, sSeq (sSet 10 (eFresh (eCompL (iSeq (eName 8)) [11] (gSet 11) (tBl (eBin ninD (eNew (nCall m__law_tie (aCons (eName 9) (aCons (eName 11) aNil)))) (eName 6))) (eName 11)))) rest (env4 a b mo n s3 s4 s5 T s7 B (.val (.int one)) s10 s11) = rest (env4 a b mo n s3 s4 s5 T s7 B (.val (.int one)) (.val (.lst ((B.filter fun p => !decide (tie one p ∈ T)).map D.int))) s11) := fun rest => by
    rw [sSeq_e, sSet_e, eFresh_e, some_comp a b mo n s3 s4 s5 T s7 B one s10 s11 hs (by omega)]
    rfl
  rw [matFb, e1, e2]
  generalize hF : (B.filter fun p => !decide (tie one p ∈ T)) = F
  have hFl : F.length ≤ 50 := by
    rw [← hF]
    exact Nat.le_trans (List.length_filter_le _ _) hB
  have hn := ints_nil F
  cases hE : F.isEmpty with
  | true =>
    left
    obtain ⟨x, a', b', e3, hx⟩ := some_ok a b ((writtenW.take 3).map wD) _ (.inl rfl) (by simp [writtenW]) (by simp [writtenW])
    have w3 := written3
    generalize hW3 : (writtenW.take 3).map wD = W3 at *
    rw [← hW3] at hx
    obtain ⟨w, hw, rfl⟩ := List.mem_map.mp hx
    rw [hE] at hn
    refine ⟨w, hw, [.val (.int n), s3, s4, s5, .own false (.lst (T.map tieD)), s7, .own false (.lst (B.map .int)), .val (.int one), .val (.lst (F.map D.int)), s11], a', b', ?_⟩
    rw [sSeq_e, sIf_e]
    have q1 : tBl (eBin eqD (eName 10) (eLst aNil)) (env4 a b mo n s3 s4 s5 T s7 B (.val (.int one)) (.val (.lst (F.map D.int))) s11) = .ok true (env4 a b mo n s3 s4 s5 T s7 B (.val (.int one)) (.val (.lst (F.map D.int))) s11) := by
      simp [storeL, hn]
    rw [q1, Out.so_ok, if_pos rfl]
    simp [written_eq, slD, w3, e3]
  | false =>
    right
    rw [hE] at hn
    have hne : F ≠ [] := by intro z; subst z; cases hE
    obtain ⟨x, a', b', e3, hx⟩ := some_ok a b (F.map .int) _ (.inl rfl) (by simpa using hne) (by simp; omega)
    obtain ⟨other, hw, rfl⟩ := List.mem_map.mp hx
    have hw2 := hw
    rw [← hF, List.mem_filter] at hw2
    have ho : tie one other ∉ T := by simpa using hw2.2
    refine ⟨other, a', b', .val (.lst (F.map D.int)), hw2.1, ho, ?_⟩
    have q1 : tBl (eBin eqD (eName 10) (eLst aNil)) (env4 a b mo n s3 s4 s5 T s7 B (.val (.int one)) (.val (.lst (F.map D.int))) s11) = .ok false (env4 a b mo n s3 s4 s5 T s7 B (.val (.int one)) (.val (.lst (F.map D.int))) s11) := by
      simp [storeL, hn]
    have er := remO_int hw2.1
    have ea : appO (T.map tieD) [tieD (tie one other)] = some (.non, T.map tieD ++ [tieD (tie one other)]) := by
      show (if _ then _ else _) = _
      rw [if_pos (by rw [List.length_map]; omega)]
    rw [sSeq_e, sIf_e, q1, Out.so_ok, if_neg (by simp)]
    simp [e3, er, law_tie_eq, ea, mAnsw]
end HD

namespace HD
open PySem PySem.Spec PyProof.Rows L2 EL LamX
/-- a web -/
structure Web (n : Int) (ts : List (Int × Int)) : Prop where
  ok : okN n = true
  len : ts.length ≤ 15
  tok : ∀ t ∈ ts, 0 ≤ t.1 ∧ t.1 < t.2 ∧ t.2 < n
  asc : Asc ts
  odd : ∀ p : Int, 0 ≤ p ∧ p < n → deg ts p % 2 = 1
theorem tieB_tieD (n : Int) (t : Int × Int) : tieB n (tieD t) = (decide (0 ≤ t.1) && decide (t.1 < t.2) && decide (t.2 < n)) := rfl
theorem webB_iff {n : Int} {ts : List (Int × Int)} : webB (webD n ts) = true ↔ Web n ts := by
  have e : webB (webD n ts) = (okN n && decide ((ts.map tieD).length ≤ 15) && (ts.map tieD).all (tieB n) && ascB ((ts.map tieD).map tieOf) && degB n ((ts.map tieD).map tieOf)) := rfl
  rw [e, tieOf_tieD]
  simp only [Bool.and_eq_true, decide_eq_true_eq, List.length_map, List.all_eq_true, ascB_iff]
  constructor
  · rintro ⟨⟨⟨⟨h1, h2⟩, h3⟩, h4⟩, h5⟩
    refine ⟨h1, h2, fun t ht => ?_, h4, fun p hp => ?_⟩
    · have := h3 _ (List.mem_map.mpr ⟨t, ht, rfl⟩)
      simp [tieB_tieD] at this
      omega
    · unfold degB at h5
      rw [List.all_eq_true] at h5
      have := h5 p.toNat (List.mem_range.mpr (by omega))
      unfold degP at this
      rw [decide_eq_true_eq, nearI_len, Int.toNat_of_nonneg hp.1] at this
      omega
  · intro h
    refine ⟨⟨⟨⟨h.ok, h.len⟩, fun d hd => ?_⟩, h.asc⟩, ?_⟩
    · obtain ⟨t, ht, rfl⟩ := List.mem_map.mp hd
      have := h.tok t ht
      simp [tieB_tieD]
      omega
    · unfold degB
      rw [List.all_eq_true]
      intro i hi
      have := h.odd i (by have := List.mem_range.mp hi; omega)
      unfold degP
      rw [decide_eq_true_eq, nearI_len]
      omega
theorem threesB_iff {n : Int} {ts : List (Int × Int)} : threesB n ts = true ↔ ∀ p : Int, 0 ≤ p ∧ p < n → deg ts p = 3 := by
  unfold threesB threeP
  rw [List.all_eq_true]
  constructor
  · intro h p hp
    have := h p.toNat (List.mem_range.mpr (by omega))
    rw [decide_eq_true_eq, nearI_len, Int.toNat_of_nonneg hp.1] at this
    omega
  · intro h i hi
    rw [decide_eq_true_eq, nearI_len, h i (by have := List.mem_range.mp hi; omega)]
    rfl
theorem okN_of {n : Int} (h : n = 4 ∨ n = 6 ∨ n = 8 ∨ n = 10) : okN n = true := by
  simp [okN]; omega
theorem written_webs : ∀ w ∈ writtenW, Web w.1 w.2 := by
  have : writtenW.all (fun w => webB (wD w)) = true := by decide +kernel
  rw [List.all_eq_true] at this
  exact fun w hw => webB_iff.mp (this w hw)
theorem written_threes : ∀ w ∈ writtenW.take 3, threesB w.1 w.2 = true ∧ w.1 ≤ 8 := by
  have : (writtenW.take 3).all (fun w => threesB w.1 w.2 && decide (w.1 ≤ 8)) = true := by decide +kernel
  rw [List.all_eq_true] at this
  intro w hw
  have := this w hw
  rw [Bool.and_eq_true, decide_eq_true_eq] at this
  exact this
theorem half (j : Nat) : ((2 * (j : Int)) / 2) = (j : Int) := by omega
theorem mat_loop (a b : Int) (mo : D) (n : Nat) (k : Nat) (hk : n = 2 * k) (hn : n ≤ 10) (s3 s4 : EL.Slot) (T : List (Int × Int)) (s7 s5 : EL.Slot) (hT : T.length = n) (M : Match n ((List.range n).map fun (i : Nat) => (i : Int)) T) :
    (∃ ρ', (∃ a' b' s5' T' s9 s10 s11, T'.length = n + k ∧ Match n [] T' ∧ ρ' = env4 a' b' mo n s3 s4 s5' T' s7 [] s9 s10 s11) ∧
      forN (.of ((List.range k).map fun (i : Nat) => D.int (0 + (i : Int)))) (gSet 5) matFb ((List.range k).map fun (i : Nat) => D.int (0 + (i : Int))).length 0 (env4 a b mo n s3 s4 s5 T s7 ((List.range n).map fun (i : Nat) => (i : Int)) .un .un .un) = .next ρ') ∨
    ∃ r ρ', forN (.of ((List.range k).map fun (i : Nat) => D.int (0 + (i : Int)))) (gSet 5) matFb ((List.range k).map fun (i : Nat) => D.int (0 + (i : Int))).length 0 (env4 a b mo n s3 s4 s5 T s7 ((List.range n).map fun (i : Nat) => (i : Int)) .un .un .un) = .ret r ρ' ∧
      ∃ w ∈ writtenW.take 3, r = .val (wD w) ∧ ∃ a' b' ρ, ρ' = drS a' b' :: .val mo :: ρ := by
  rcases forLx (ds := (List.range k).map fun (i : Nat) => D.int (0 + (i : Int))) (tg := gSet 5) (fb := matFb) (ρ := env4 a b mo n s3 s4 s5 T s7 ((List.range n).map fun (i : Nat) => (i : Int)) .un .un .un)
    (fun pre ρ => ∃ a' b' s5' T' B s9 s10 s11, B.length + 2 * pre.length = n ∧ T'.length = n + pre.length ∧ Match n B T' ∧ (s11 = .un ∨ ∃ d, s11 = .val d) ∧ ρ = env4 a' b' mo n s3 s4 s5' T' s7 B s9 s10 s11)
    (fun r ρ' => ∃ w ∈ writtenW.take 3, r = .val (wD w) ∧ ∃ a' b' ρ, ρ' = drS a' b' :: .val mo :: ρ)
    ⟨a, b, s5, T, _, .un, .un, .un, by simp, by simpa using hT, M, .inl rfl, rfl⟩ (fun pre d post ρ e hI => by
      obtain ⟨a', b', s5', T', B, s9, s10, s11, h1, h2, h3, h4, rfl⟩ := hI
      have he := congrArg List.length e
      simp at he
      cases B with
      | nil => simp at h1; omega
      | cons one B =>
        simp at h1
        refine ⟨env4 a' b' mo n s3 s4 (.val d) T' s7 (one :: B) s9 s10 s11, rfl, ?_⟩
        rcases mat_step a' b' mo n s3 s4 (.val d) T' s7 B one s9 s10 s11 h4 (by omega) (by omega) with ⟨w, hw, ρ, a2, b2, e2⟩ | ⟨other, a2, b2, s10', ho, hf, e2⟩
        · exact .inr ⟨_, _, e2, w, hw, rfl, a2, b2, ρ, rfl⟩
        · exact .inl ⟨_, e2, a2, b2, _, _, _, _, _, _, by simp [List.length_erase_of_mem ho]; have := List.length_pos_of_mem ho; omega, by simp; omega, h3.step ho hf, .inr ⟨_, rfl⟩, rfl⟩) with ⟨ρ', h1, a', b', s5', T', B, s9, s10, s11, h2, h3, h4, _, rfl⟩ | ⟨r, ρ', h1, h2⟩
  · left
    simp at h2
    have hB : B = [] := List.length_eq_zero_iff.mp (by omega)
    subst hB
    refine ⟨_, ⟨a', b', s5', T', s9, s10, s11, by simpa using h3, h4, rfl⟩, h1⟩
  · exact .inr ⟨r, ρ', h1, h2⟩
theorem threes_ok (a b mo : Int) (hm : mo = 10 ∨ mo = 8) : ∃ n ts a' b', m__law_threes [drS a b, .val (.int mo)] = .ok (webD n ts) [drS a' b', .val (.int mo)] ∧ Web n ts ∧ threesB n ts = true ∧ n ≤ mo := by
  unfold m__law_threes
  rw [show ∀ fb, mOf 2 12 fb [drS a b, .val (.int mo)] = frOf [drS a b, .val (.int mo)] (fb [drS a b, .val (.int mo), .un, .un, .un, .un, .un, .un, .un, .un, .un, .un]) from fun fb => mOf_eq rfl]
  obtain ⟨j, a1, b1, e1, h1, h2⟩ := roll_ok a b ((mo - 2) / 2) (by omega) (by omega)
  obtain ⟨k, hk⟩ : ∃ k : Nat, 4 + 2 * j = ((2 * k : Nat) : Int) := ⟨(2 + j).toNat, by omega⟩
  have hkl : 2 ≤ k ∧ 2 * k ≤ mo.toNat := by omega
  have hk10 : 2 * k ≤ 10 := by omega
  have hn4 : ((2 * k : Nat) : Int) = 4 ∨ ((2 * k : Nat) : Int) = 6 ∨ ((2 * k : Nat) : Int) = 8 ∨ ((2 * k : Nat) : Int) = 10 := by omega
  have m1 : cMulB 2 j = true := cMul_r (by omega)
  have c1 : ∀ rest, sSeq (sSet 2 (eBin addD (eK (.int 4)) (eBin mulD (eK (.int 2)) (eNew (nCall m__law_roll (aCons (eName 0) (aCons (eBin fdivD (eBin subD (eName 1) (eK (.int 2))) (eK (.int 2))) aNil))))))) rest [drS a b, .val (.int mo), .un, .un, .un, .un, .un, .un, .un, .un, .un, .un] = rest [drS a1 b1, .val (.int mo), .val (.int ((2 * k : Nat) : Int)), .un, .un, .un, .un, .un, .un, .un, .un, .un] := fun rest => by
    simp [e1, m1, ← hk]
  unfold b__law_threes
  rw [c1]
  generalize hn : 2 * k = n at *
  have hr := rg_eq (n : Int) (by omega) (by omega)
  rw [Int.toNat_natCast] at hr
  have c2 : ∀ rest, sSeq (sPar 3 4 (nFv (fRg (eName 2))) (nFv (fLst aNil))) rest [drS a1 b1, .val (.int mo), .val (.int (n : Int)), .un, .un, .un, .un, .un, .un, .un, .un, .un] = rest (env3 a1 b1 (.int mo) n ((List.range n).map fun (i : Nat) => (i : Int)) [] .un) := fun rest => by
    generalize (List.range n).map (fun (i : Nat) => (i : Int)) = R at *
    simp [hr, storeL]
    rfl
  rw [c2]
  obtain ⟨a2, b2, O, s5, hp, h3⟩ := ord_loop a1 b1 (.int mo) n (by omega)
  have hrn := rng1_eq (j := (n : Int)) (k := n) (Int.toNat_natCast _) ⟨by omega, by omega⟩
  have c3 : ∀ rest, sSeq (sFor (iRng rng1 (aCons (eName 2) aNil)) (gSet 5) ordFb) rest (env3 a1 b1 (.int mo) n ((List.range n).map fun (i : Nat) => (i : Int)) [] .un) = rest (env3 a2 b2 (.int mo) n [] O s5) := fun rest => by
    rw [sSeq_e, sFor_of (ds := (List.range n).map fun (i : Nat) => D.int (0 + (i : Int))) (ρ1 := env3 a1 b1 (.int mo) n ((List.range n).map fun (i : Nat) => (i : Int)) [] .un) ?_, h3]
    · rfl
    · have e : aCons (eName 2) aNil (env3 a1 b1 (.int mo) n ((List.range n).map fun (i : Nat) => (i : Int)) [] .un) = .ok [.val (.int (n : Int))] (env3 a1 b1 (.int mo) n ((List.range n).map fun (i : Nat) => (i : Int)) [] .un) := rfl
      rw [iRng_e, e, Out.bind_ok, hrn, Out.of_some]
  rw [c3]
  have hOl : O.length = n := by rw [hp.length_eq]; simp
  have hOn : O.Nodup := hp.nodup_iff.mpr (by
    refine List.pairwise_map.mpr (List.Pairwise.imp ?_ List.nodup_range)
    intro x y h e
    exact h (by omega))
  have hOm : ∀ p, p ∈ O ↔ 0 ≤ p ∧ p < n := fun p => by
    rw [hp.mem_iff, List.mem_map]
    constructor
    · rintro ⟨i, hi, rfl⟩
      have := List.mem_range.mp hi
      omega
    · intro h
      exact ⟨p.toNat, List.mem_range.mpr (by omega), by omega⟩
  have hO0 : O ≠ [] := by intro z; subst z; simp at hOl; omega
  have c4 : ∀ rest, sSeq (sNew 6 (nFv (eCompL (iRng rng1 (aCons (eName 2) aNil)) [7] (gSet 7) tYesB (eNew (nCall m__law_tie (aCons (eBin ixD (eName 4) (eName 7)) (aCons (eBin ixD (eName 4) (eBin subD (eName 7) (eK (.int 1)))) aNil))))))) rest (env3 a2 b2 (.int mo) n [] O s5) = rest [drS a2 b2, .val (.int mo), .val (.int (n : Int)), .own false (.lst []), .own false (.lst (O.map .int)), s5, .own false (.lst ((cyc O).map tieD)), .un, .un, .un, .un, .un] := fun rest => by
    have := cyc_comp (drS a2 b2) (.val (.int mo)) (.own false (.lst [])) s5 .un .un .un .un .un false O hO0 (by omega)
    rw [hOl] at this
    rw [sSeq_e, sNew_e, nFv_e]
    show (((eCompL _ _ _ _ _ [drS a2 b2, .val (.int mo), .val (.int (n : Int)), .own false (.lst []), .own false (.lst (O.map .int)), s5, .un, .un, .un, .un, .un, .un]).bind _).so _).then _ = _
    rw [this]
    rfl
  rw [c4]
  have c5 : ∀ rest, sSeq (sNew 8 (nFv (fRg (eName 2)))) rest [drS a2 b2, .val (.int mo), .val (.int (n : Int)), .own false (.lst []), .own false (.lst (O.map .int)), s5, .own false (.lst ((cyc O).map tieD)), .un, .un, .un, .un, .un] = rest (env4 a2 b2 (.int mo) n (.own false (.lst [])) (.own false (.lst (O.map .int))) s5 (cyc O) .un ((List.range n).map fun (i : Nat) => (i : Int)) .un .un .un) := fun rest => by
    generalize (List.range n).map (fun (i : Nat) => (i : Int)) = R at *
    simp [hr]
  rw [c5]
  have M : Match n ((List.range n).map fun (i : Nat) => (i : Int)) (cyc O) := by
    have mR : ∀ p, p ∈ (List.range n).map (fun (i : Nat) => (i : Int)) ↔ 0 ≤ p ∧ p < n := fun p => by rw [← hp.mem_iff, hOm]
    refine ⟨hp.nodup_iff.mp hOn, fun p h => (mR p).mp h, cyc_nodup hOn (by omega), cyc_ok hOn (by omega) fun p h => (hOm p).mp h, fun p h => ?_⟩
    rw [deg_cyc hOn (by omega) ((hOm p).mpr h), if_pos ((mR p).mpr h)]
  have hL := mat_loop a2 b2 (.int mo) n k hn.symm hk10 (.own false (.lst [])) (.own false (.lst (O.map .int))) (cyc O) .un s5 (by rw [cyc_len, hOl]) M
  have hrk := rng1_eq (j := (k : Int)) (k := k) (Int.toNat_natCast _) ⟨by omega, by omega⟩
  have c6 : ∀ (ρ : EL.Env), ρ[2]? = some (.val (.int (n : Int))) → iRng rng1 (aCons (eBin fdivD (eName 2) (eK (.int 2))) aNil) ρ = .ok (.of ((List.range k).map fun (i : Nat) => D.int (0 + (i : Int)))) ρ := fun ρ h => by
    have e : (n : Int) / 2 = (k : Int) := by omega
    have e5 : fdivD (.int (n : Int)) (.int 2) = some (.int (k : Int)) := by rw [fdivD_i, if_pos (by simp), e]
    have e6 : eName 2 ρ = .ok (.val (.int (n : Int))) ρ := by unfold eName; rw [h]
    exact iRng1_of (by rw [eBin_e, e6]; simp only [Out.bind_ok, eK_e, ap2_val, e5, Option.map_some, Out.of_some]) hrk
  rw [sSeq_e, sFor_of (c6 _ rfl)]
  rcases hL with ⟨ρ', ⟨a', b', s5', T, s9, s10, s11, hT, M2, rfl⟩, h4⟩ | ⟨r, ρ', h4, w, hw, rfl, a', b', ρ, rfl⟩
  · rw [h4]
    obtain ⟨us, p1, p2, p3⟩ := sort_ties (n := n) (by omega) M2.tn M2.tok (by omega)
    refine ⟨n, us, a', b', ?_, ⟨okN_of hn4, by rw [p1.length_eq]; omega, fun t ht => M2.tok t (p1.mem_iff.mp ht), p2, fun p h => ?_⟩, ?_, by omega⟩
    · show frOf _ (sRet _ _) = _
      simp [p3, tupleD, storeL]
    · rw [deg_perm p1, M2.dg p h, if_neg (by simp)]
    · rw [threesB_iff]
      intro p h
      rw [deg_perm p1, M2.dg p h, if_neg (by simp)]
  · rw [h4]
    have hw2 := written_threes w hw
    exact ⟨w.1, w.2, a', b', rfl, written_webs w (List.mem_of_mem_take hw), hw2.1, by omega⟩
end HD

namespace EL
open PySem PySem.Spec PyProof.Rows L2
theorem eCompL_val {α : Type} {xs : List α} {mk : α → D} {fi : EL.Env → Out CSrc} {vs : List Nat} {tg : Tg} {ft : EL.Env → Out Bool} {fe : EL.Env → Out Rv} {ρ ρ1 ρ0 : EL.Env} (p : α → Bool) (g : α → D) (hn : xs.length ≤ 16777216) (h : fi ρ = .ok (.of (xs.map mk)) ρ1) (hw : wipeE vs ρ1 = ρ0)
    (step : ∀ x ∈ xs, ∃ ρ1, tg (mk x) ρ0 = some ρ1 ∧ ft ρ1 = .ok (p x) ρ1 ∧ (p x = true → fe ρ1 = .ok (.val (g x)) ρ1) ∧ wipeE vs ρ1 = ρ0) :
    eCompL fi vs tg ft fe ρ = .ok ((xs.filter p).map g) (putBack ρ1 vs ρ0) := by
  rw [eCompL_of h (by rw [hw]; exact compPure p g hn step)]
theorem eCompL_valAll {α : Type} {xs : List α} {mk : α → D} {fi : EL.Env → Out CSrc} {vs : List Nat} {tg : Tg} {fe : EL.Env → Out Rv} {ρ ρ1 ρ0 : EL.Env} (g : α → D) (hn : xs.length ≤ 16777216) (h : fi ρ = .ok (.of (xs.map mk)) ρ1) (hw : wipeE vs ρ1 = ρ0)
    (step : ∀ x ∈ xs, ∃ ρ1, tg (mk x) ρ0 = some ρ1 ∧ fe ρ1 = .ok (.val (g x)) ρ1 ∧ wipeE vs ρ1 = ρ0) :
    eCompL fi vs tg tYesB fe ρ = .ok (xs.map g) (putBack ρ1 vs ρ0) := by
  rw [eCompL_val (ft := tYesB) (fun _ => true) g hn h hw fun x hx => let ⟨ρ1, a, b, c⟩ := step x hx; ⟨ρ1, a, rfl, fun _ => b, c⟩, List.filter_eq_self.mpr fun _ _ => rfl]
end EL
namespace HD
open PySem PySem.Spec PyProof.Rows L2 EL LamX
theorem inD_l {d : D} {xs : List D} (h1 : okd 60 d = true) (h2 : okd 60 (.lst xs) = true) : inD d (.lst xs) = some (.bl (memd d xs)) := by
  show (if _ then _ else _) = _
  rw [if_pos ⟨h1, h2⟩]
theorem in_ties (t : Int × Int) (ts : List (Int × Int)) : inD (tieD t) (.lst (ts.map tieD)) = some (.bl (decide (t ∈ ts))) := by
  rw [inD_l (by simp) (okd_ties ts 58), memd_ties]
theorem ne_tie (t u : Int × Int) : neD (tieD t) (tieD u) = some (.bl (!decide (t = u))) := by
  show (if _ then _ else _) = _
  rw [if_pos ⟨by simp, by simp⟩, eqd_tie, eqd_int_int, eqd_int_int]
  congr 3
  rw [Bool.eq_iff_iff]
  simp [Prod.ext_iff]
abbrev parFb : EL.Env → SO := (sSeq (sSet 5 (eCallV lenD (aCons (eFresh (eCompL (iSeq (eName 2)) [3] (gSet 3) (tBl (eBin inD (eName 4) (eName 3))) (eK (.int 1)))) aNil)))
 (sSeq (sSet 6 (eTup (aCons (eName 4) (aCons (eBin subD (eName 1) (eK (.int 1))) aNil))))
 (sIf (tBl (eBin eqD (eBin modD (eName 5) (eK (.int 2))) (eK (.int 0))))
 (sSet 2 (eBin addD (eFresh (eCompL (iSeq (eName 2)) [3] (gSet 3) (tBl (eBin neD (eName 3) (eName 6))) (eName 3))) (eIf (tBl (eBin inD (eName 6) (eName 2))) (eLst aNil) (eLst (aCons (eName 6) aNil)))))
 SO.next)))
abbrev env5 (s0 : EL.Slot) (n : Int) (T : List (Int × Int)) (s4 s5 s6 : EL.Slot) : EL.Env := [s0, .val (.int n), .val (.lst (T.map tieD)), .un, s4, s5, s6]
/-- a tie put in or taken out -/
def toggle (T : List (Int × Int)) (t : Int × Int) : List (Int × Int) := (T.filter fun u => !decide (u = t)) ++ (if t ∈ T then [] else [t])
theorem par_step (s0 : EL.Slot) (n : Int) (T : List (Int × Int)) (i : Int) (s5 s6 : EL.Slot) (hT : T.length ≤ 100) :
    ∃ s5' s6', parFb (env5 s0 n T (.val (.int i)) s5 s6) = .next (env5 s0 n (if deg T i % 2 = 0 then toggle T (i, n - 1) else T) (.val (.int i)) s5' s6') := by
  refine ⟨.val (.int (deg T i)), .val (tieD (i, n - 1)), ?_⟩
  have e1 : ∀ rest, sSeq (sSet 5 (eCallV lenD (aCons (eFresh (eCompL (iSeq (eName 2)) [3] (gSet 3) (tBl (eBin inD (eName 4) (eName 3))) (eK (.int 1)))) aNil))) rest (env5 s0 n T (.val (.int i)) s5 s6) = rest (env5 s0 n T (.val (.int i)) (.val (.int (deg T i))) s6) := fun rest => by
    have c := eCompL_val (xs := T) (mk := tieD) (fi := iSeq (eName 2)) (vs := [3]) (tg := gSet 3) (ft := tBl (eBin inD (eName 4) (eName 3))) (fe := eK (.int 1)) (ρ := env5 s0 n T (.val (.int i)) s5 s6) (ρ1 := env5 s0 n T (.val (.int i)) s5 s6) (ρ0 := env5 s0 n T (.val (.int i)) s5 s6) (nearB i) (fun _ => .int 1) (by omega) rfl rfl fun t ht => ⟨[s0, .val (.int n), .val (.lst (T.map tieD)), .val (tieD t), .val (.int i), s5, s6], rfl, by simp, fun _ => by simp, rfl⟩
    rw [sSeq_e, sSet_e, eCallV_e, aCons_e, eFresh_e, c]
    simp [deg]
  have e2 : ∀ (q : D) rest, sSeq (sSet 6 (eTup (aCons (eName 4) (aCons (eBin subD (eName 1) (eK (.int 1))) aNil)))) rest (env5 s0 n T (.val (.int i)) (.val q) s6) = rest (env5 s0 n T (.val (.int i)) (.val q) (.val (tieD (i, n - 1)))) := fun q rest => by
    simp [storeL]
  rw [parFb, e1, e2]
  have hm : ((deg T i : Nat) : Int) % 2 = 0 ↔ deg T i % 2 = 0 := by omega
  by_cases h : deg T i % 2 = 0
  · rw [if_pos h]
    have c := eCompL_val (xs := T) (mk := tieD) (fi := iSeq (eName 2)) (vs := [3]) (tg := gSet 3) (ft := tBl (eBin neD (eName 3) (eName 6))) (fe := eName 3) (ρ := env5 s0 n T (.val (.int i)) (.val (.int (deg T i))) (.val (tieD (i, n - 1)))) (ρ1 := env5 s0 n T (.val (.int i)) (.val (.int (deg T i))) (.val (tieD (i, n - 1)))) (ρ0 := env5 s0 n T (.val (.int i)) (.val (.int (deg T i))) (.val (tieD (i, n - 1)))) (fun u => !decide (u = (i, n - 1))) tieD (by omega) rfl rfl fun t ht => ⟨[s0, .val (.int n), .val (.lst (T.map tieD)), .val (tieD t), .val (.int i), .val (.int (deg T i)), .val (tieD (i, n - 1))], rfl, by have := ne_tie t (i, n - 1); simp [this], fun _ => by simp, rfl⟩
    have ht : tBl (eBin eqD (eBin modD (eName 5) (eK (.int 2))) (eK (.int 0))) (env5 s0 n T (.val (.int i)) (.val (.int (deg T i))) (.val (tieD (i, n - 1)))) = .ok true (env5 s0 n T (.val (.int i)) (.val (.int (deg T i))) (.val (tieD (i, n - 1)))) := by
      simp [hm, h]
    rw [sIf_e, ht, Out.so_ok, if_pos rfl, sSet_e, eBin_e, eFresh_e, c]
    have hin := in_ties (i, n - 1) T
    have hf : (T.filter fun u => !decide (u = (i, n - 1))).length ≤ 100 := Nat.le_trans (List.length_filter_le _ _) hT
    unfold toggle
    generalize (T.filter fun u => !decide (u = (i, n - 1))) = F at *
    have k1 := addD_ll (xs := F.map tieD) (ys := []) (by simp; omega)
    have k2 := addD_ll (xs := F.map tieD) (ys := [tieD (i, n - 1)]) (by simp; omega)
    have e0 : ∀ U : List (Int × Int), (F ++ U).map tieD = F.map tieD ++ U.map tieD := fun U => List.map_append
    by_cases hmem : (i, n - 1) ∈ T
    · rw [decide_eq_true hmem] at hin
      rw [if_pos hmem]
      simp only [env5]
      rw [e0]
      generalize tieD (i, n - 1) = P at *
      generalize T.map tieD = TD at *
      generalize F.map tieD = FD at *
      simp at k1
      simp [hin, storeL, k1]
    · rw [decide_eq_false hmem] at hin
      rw [if_neg hmem]
      simp only [env5]
      rw [e0, List.map_cons, List.map_nil]
      generalize tieD (i, n - 1) = P at *
      generalize T.map tieD = TD at *
      generalize F.map tieD = FD at *
      simp [hin, storeL, k2]
  · rw [if_neg h]
    have ht : tBl (eBin eqD (eBin modD (eName 5) (eK (.int 2))) (eK (.int 0))) (env5 s0 n T (.val (.int i)) (.val (.int (deg T i))) (.val (tieD (i, n - 1)))) = .ok false (env5 s0 n T (.val (.int i)) (.val (.int (deg T i))) (.val (tieD (i, n - 1)))) := by
      simp [hm, h]
    rw [sIf_e, ht]
    rfl
end HD

namespace HD
open PySem PySem.Spec PyProof.Rows L2 EL LamX
theorem toggle_ok {n : Nat} {T : List (Int × Int)} {t : Int × Int} (hd : T.Nodup) (ht : ∀ u ∈ T, u ∈ pairsI n) (h : t ∈ pairsI n) : (toggle T t).Nodup ∧ (∀ u ∈ toggle T t, u ∈ pairsI n) ∧ ∀ p, deg (toggle T t) p % 2 = (deg T p + (if nearB p t = true then 1 else 0)) % 2 := by
  unfold toggle
  have hf : (T.filter fun u => !decide (u = t)).Nodup := hd.filter _
  refine ⟨?_, fun u hu => ?_, fun p => ?_⟩
  · rw [List.nodup_append]
    refine ⟨hf, by split <;> simp, fun a ha b hb e => ?_⟩
    split at hb
    · simp at hb
    · simp at hb
      subst hb
      subst e
      simp at ha
  · rcases List.mem_append.mp hu with hu | hu
    · exact ht u (List.mem_filter.mp hu).1
    · split at hu
      · simp at hu
      · simp at hu; rw [hu]; exact h
  · rw [deg_append]
    have := deg_filter hd p (t := t)
    by_cases hm : t ∈ T
    · rw [if_pos hm, deg_nil]
      by_cases hb : nearB p t = true
      · rw [if_pos ⟨hm, hb⟩] at this
        rw [if_pos hb]
        omega
      · rw [if_neg (fun c => hb c.2)] at this
        rw [if_neg hb]
        omega
    · rw [if_neg hm, deg_cons, deg_nil]
      rw [if_neg (fun c => hm c.1)] at this
      omega
theorem pairs_nodup (n : Nat) (h : n = 4 ∨ n = 6) : (pairsI n).Nodup ∧ (pairsI n).length ≤ 15 := by
  rcases h with rfl | rfl
  · decide +kernel
  · decide +kernel
theorem par_loop (s0 : EL.Slot) (n : Nat) (hn : n = 4 ∨ n = 6) (T : List (Int × Int)) (hd : T.Nodup) (ht : ∀ u ∈ T, u ∈ pairsI n) :
    ∃ T' s4 s5 s6, T'.Nodup ∧ (∀ u ∈ T', u ∈ pairsI n) ∧ (∀ i : Nat, i < n - 1 → deg T' (i : Int) % 2 = 1) ∧
      forN (.of ((List.range (n - 1)).map fun (i : Nat) => D.int (0 + (i : Int)))) (gSet 4) parFb ((List.range (n - 1)).map fun (i : Nat) => D.int (0 + (i : Int))).length 0 (env5 s0 n T .un .un .un) = .next (env5 s0 n T' s4 s5 s6) := by
  obtain ⟨ρ', h1, T', s4, s5, s6, h2, h3, h4, rfl⟩ := forL (ds := (List.range (n - 1)).map fun (i : Nat) => D.int (0 + (i : Int))) (tg := gSet 4) (fb := parFb) (ρ := env5 s0 n T .un .un .un)
    (fun pre ρ => ∃ T' s4 s5 s6, T'.Nodup ∧ (∀ u ∈ T', u ∈ pairsI n) ∧ (∀ i : Nat, i < pre.length → deg T' (i : Int) % 2 = 1) ∧ ρ = env5 s0 n T' s4 s5 s6)
    ⟨T, .un, .un, .un, hd, ht, fun i hi => by simp at hi, rfl⟩ (fun pre d post ρ e hI => by
      obtain ⟨T', s4, s5, s6, h1, h2, h3, rfl⟩ := hI
      have he := congrArg List.length e
      simp at he
      have hdd : d = .int (pre.length : Int) := by
        have : ((List.range (n - 1)).map fun (i : Nat) => D.int (0 + (i : Int)))[pre.length]? = some d := by rw [e]; simp
        rw [List.getElem?_map, List.getElem?_range (by omega)] at this
        simp at this
        exact this.symm
      subst hdd
      have hl : T'.length ≤ 15 := Nat.le_trans (nodup_sub_len h1 h2) (pairs_nodup n hn).2
      obtain ⟨s5', s6', h4⟩ := par_step s0 n T' (pre.length : Int) s5 s6 (by omega)
      refine ⟨env5 s0 n T' (.val (.int (pre.length : Int))) s5 s6, _, rfl, h4, ?_⟩
      have hp : ((pre.length : Int), (n : Int) - 1) ∈ pairsI n := mem_pairsI.mpr (by dsimp; omega)
      have ok := toggle_ok h1 h2 hp
      rw [List.length_append, List.length_singleton]
      by_cases c : deg T' (pre.length : Int) % 2 = 0
      · rw [if_pos c]
        refine ⟨_, _, _, _, ok.1, ok.2.1, fun i hi => ?_, rfl⟩
        rw [ok.2.2]
        unfold nearB
        by_cases ci : i = pre.length
        · subst ci
          simp
          omega
        · have := h3 i (by omega)
          rw [if_neg (by simp; omega)]
          omega
      · rw [if_neg c]
        refine ⟨_, _, _, _, h1, h2, fun i hi => ?_, rfl⟩
        by_cases ci : i = pre.length
        · subst ci
          omega
        · exact h3 i (by omega))
  exact ⟨T', s4, s5, s6, h2, h3, fun i hi => h4 i (by simpa using hi), h1⟩
theorem pick_comp (a b : Int) (n : Nat) (hn : n = 4 ∨ n = 6) : ∃ (a' b' : Int) (T : List (Int × Int)), (T.Nodup ∧ ∀ u ∈ T, u ∈ pairsI n) ∧
    eCompL (iSeq (eNew (nCall m__law_pairs (aCons (eName 1) aNil)))) [3] (gSet 3) (tBl (eBin gtD (eNew (nCall m__law_roll (aCons (eName 0) (aCons (eK (.int 5)) aNil)))) (eK (.int 1)))) (eName 3) [drS a b, .val (.int n), .un, .un, .un, .un, .un] = .ok (T.map tieD) [drS a' b', .val (.int n), .un, .un, .un, .un, .un] := by
  have hpn := pairs_nodup n hn
  obtain ⟨zs, ρ', hc, a', b', T, h1, h2, rfl⟩ := compL (ds := (pairsI n).map tieD) (vs := [3]) (tg := gSet 3) (ft := tBl (eBin gtD (eNew (nCall m__law_roll (aCons (eName 0) (aCons (eK (.int 5)) aNil)))) (eK (.int 1)))) (fe := eName 3) (ρ := [drS a b, .val (.int n), .un, .un, .un, .un, .un]) (by simp; omega)
    (fun pre acc ρ => ∃ (a' b' : Int) (T : List (Int × Int)), acc = T.map tieD ∧ (∀ pt, pre = pt.map tieD → T.Sublist pt) ∧ ρ = [drS a' b', .val (.int n), .un, .un, .un, .un, .un]) ⟨a, b, [], rfl, fun _ _ => by simp, rfl⟩ (fun pre x post acc ρ e hI => by
      obtain ⟨a', b', T, rfl, h2, rfl⟩ := hI
      obtain ⟨j, a2, b2, e2, _, _⟩ := roll_ok a' b' 5 (by omega) (by omega)
      have hx : x ∈ (pairsI n).map tieD := by rw [e]; simp
      obtain ⟨t, _, rfl⟩ := List.mem_map.mp hx
      have hpt : ∀ pt, pre ++ [tieD t] = pt.map tieD → ∃ p0, pt = p0 ++ [t] ∧ pre = p0.map tieD := fun pt h => by
        obtain ⟨u, v, rfl, hu, hv⟩ := List.append_eq_map_iff.mp h
        obtain ⟨v1, v2, rfl, hv1, hv2⟩ := List.map_eq_cons_iff.mp hv
        have : v2 = [] := by simpa using hv2
        subst this
        have e1 : v1 = t := by
          have := congrArg tieOf hv1
          exact this
        exact ⟨u, by rw [e1], hu.symm⟩
      refine ⟨_, rfl, ?_⟩
      by_cases c : 1 < j
      · exact .inr ⟨_, tieD t, _, by simp [e2, c]; rfl, rfl, a2, b2, T ++ [t], by simp, fun pt h => by
          obtain ⟨p0, rfl, hp⟩ := hpt pt h
          exact (h2 p0 hp).append (.refl _), rfl⟩
      · exact .inl ⟨_, by simp [e2, c]; rfl, a2, b2, T, rfl, fun pt h => by
          obtain ⟨p0, rfl, hp⟩ := hpt pt h
          exact (h2 p0 hp).trans (List.sublist_append_left ..), rfl⟩)
  have hs := h2 _ rfl
  refine ⟨a', b', T, ⟨hs.nodup hpn.1, fun u hu => hs.mem hu⟩, ?_⟩
  have e1 : iSeq (eNew (nCall m__law_pairs (aCons (eName 1) aNil))) [drS a b, .val (.int n), .un, .un, .un, .un, .un] = .ok (.of ((pairsI n).map tieD)) [drS a b, .val (.int n), .un, .un, .un, .un, .un] := by
    exact iSeq_lst (call1 rfl (pairs_eq n (by omega) (by omega)))
  rw [eCompL_of e1 hc, h1]
  rfl
theorem odd_web_ok (a b : Int) : ∃ n ts a' b', m__law_odd_web [drS a b] = .ok (webD n ts) [drS a' b'] ∧ Web n ts ∧ n ≤ 6 := by
  unfold m__law_odd_web
  rw [show ∀ fb, mOf 1 7 fb [drS a b] = frOf [drS a b] (fb [drS a b, .un, .un, .un, .un, .un, .un]) from fun fb => mOf_eq rfl]
  obtain ⟨j, a1, b1, e1, h1, h2⟩ := roll_ok a b 4 (by omega) (by omega)
  have q1 : tBl (eBin eqD (eNew (nCall m__law_roll (aCons (eName 0) (aCons (eK (.int 4)) aNil)))) (eK (.int 0))) [drS a b, .un, .un, .un, .un, .un, .un] = .ok (decide (j = 0)) [drS a1 b1, .un, .un, .un, .un, .un, .un] := by
    simp [e1]
  unfold b__law_odd_web
  rw [sSeq_e, sIf_e, q1, Out.so_ok]
  by_cases hj : j = 0
  · rw [if_pos (by simpa using hj)]
    obtain ⟨x, a', b', e3, hx⟩ := some_ok a1 b1 ((writtenW.take 5).map wD) _ (.inl rfl) (by simp [writtenW]) (by simp [writtenW])
    obtain ⟨w, hw, rfl⟩ := List.mem_map.mp hx
    have w5 : EL.cutD (writtenW.map wD) none (some 5) = (writtenW.take 5).map wD := rfl
    have hw6 : ∀ w ∈ writtenW.take 5, w.1 ≤ 6 := by
      have : (writtenW.take 5).all (fun w => decide (w.1 ≤ 6)) = true := by decide +kernel
      rw [List.all_eq_true] at this
      exact fun w hw => by simpa using this w hw
    have hws := written_webs w (List.mem_of_mem_take hw)
    refine ⟨w.1, w.2, a', b', ?_, hws, hw6 w hw⟩
    generalize (writtenW.take 5).map wD = W5 at *
    simp [written_eq, slD, w5, e3]
  · rw [if_neg (by simpa using hj)]
    obtain ⟨x, a2, b2, e2, hx⟩ := some_ok a1 b1 [.int 4, .int 6, .int 6, .int 6] _ (.inl rfl) (by simp) (by simp)
    obtain ⟨n, hn, rfl⟩ : ∃ n : Nat, (n = 4 ∨ n = 6) ∧ x = .int n := by
      simp at hx
      rcases hx with rfl | rfl
      · exact ⟨4, .inl rfl, rfl⟩
      · exact ⟨6, .inr rfl, rfl⟩
    have c1 : ∀ rest, sSeq (sSet 1 (eNew (nCall m__law_some (aCons (eName 0) (aCons (eLst (aCons (eK (.int 4)) (aCons (eK (.int 6)) (aCons (eK (.int 6)) (aCons (eK (.int 6)) aNil))))) aNil))))) rest [drS a1 b1, .un, .un, .un, .un, .un, .un] = rest [drS a2 b2, .val (.int n), .un, .un, .un, .un, .un] := fun rest => by
      simp [storeL, e2]
    show ∃ n ts a' b', frOf _ (sSeq (sSet 1 _) _ [drS a1 b1, .un, .un, .un, .un, .un, .un]) = _ ∧ _
    rw [c1]
    obtain ⟨a3, b3, T, ⟨hT1, hT2⟩, e3⟩ := pick_comp a2 b2 n hn
    have c2 : ∀ rest, sSeq (sSet 2 (eFresh (eCompL (iSeq (eNew (nCall m__law_pairs (aCons (eName 1) aNil)))) [3] (gSet 3) (tBl (eBin gtD (eNew (nCall m__law_roll (aCons (eName 0) (aCons (eK (.int 5)) aNil)))) (eK (.int 1)))) (eName 3)))) rest [drS a2 b2, .val (.int n), .un, .un, .un, .un, .un] = rest (env5 (drS a3 b3) n T .un .un .un) := fun rest => by
      rw [sSeq_e, sSet_e, eFresh_e, e3]
      rfl
    rw [c2]
    obtain ⟨T', s4, s5, s6, k1, k2, k3, k4⟩ := par_loop (drS a3 b3) n hn T hT1 hT2
    have hr : rng1 [.val (.int ((n : Int) - 1))] = some (.of ((List.range (n - 1)).map fun (i : Nat) => D.int (0 + (i : Int)))) := rng1_eq (j := (n : Int) - 1) (k := n - 1) (by omega) ⟨by omega, by omega⟩
    rw [sSeq_e, sFor_of (iRng1_of (K := (n : Int) - 1) (ρ' := env5 (drS a3 b3) n T .un .un .un) (by simp) hr), k4]
    have hl : T'.length ≤ 15 := Nat.le_trans (nodup_sub_len k1 k2) (pairs_nodup n hn).2
    have hv : ∀ t ∈ T', 0 ≤ t.1 ∧ t.1 < t.2 ∧ t.2 < n := fun t ht => mem_pairsI.mp (k2 t ht)
    obtain ⟨us, p1, p2, p3⟩ := sort_ties (n := n) (by omega) k1 hv (by omega)
    refine ⟨n, us, a3, b3, ?_, ⟨okN_of (by omega), by rw [p1.length_eq]; exact hl, fun t ht => hv t (p1.mem_iff.mp ht), p2, fun p hp => ?_⟩, by omega⟩
    · show frOf _ (sRet _ _) = _
      simp [p3, tupleD, storeL]
    · rw [deg_perm p1]
      by_cases hpl : p = ((n - 1 : Nat) : Int)
      · rw [hpl]
        exact last_odd (by omega) hv (by omega) k3
      · have := k3 p.toNat (by omega)
        rwa [Int.toNat_of_nonneg hp.1] at this
/-- a random web -/
theorem web_ok (a b mo : Int) (hm : mo = 10 ∨ mo = 8) : ∃ n ts a' b', m__law_web [drS a b, .val (.int mo)] = .ok (webD n ts) [drS a' b', .val (.int mo)] ∧ Web n ts ∧ n ≤ mo := by
  unfold m__law_web
  rw [show ∀ fb, mOf 2 2 fb [drS a b, .val (.int mo)] = frOf [drS a b, .val (.int mo)] (fb [drS a b, .val (.int mo)]) from fun fb => mOf_eq rfl]
  obtain ⟨j, a1, b1, e1, h1, h2⟩ := roll_ok a b 3 (by omega) (by omega)
  by_cases hj : 0 < j
  · obtain ⟨n, ts, a2, b2, e2, hw, _, hn⟩ := threes_ok a1 b1 mo hm
    exact ⟨n, ts, a2, b2, by simp [b__law_web, e1, hj, e2], hw, hn⟩
  · obtain ⟨n, ts, a2, b2, e2, hw, hn⟩ := odd_web_ok a1 b1
    exact ⟨n, ts, a2, b2, by simp [b__law_web, e1, hj, e2], hw, by omega⟩
end HD

namespace EL
open PySem PySem.Spec PyProof.Rows L2
section
variable {m : List EL.Slot → FR} {f g h : EL.Env → Out Rv} {ρ ρ1 ρ2 ρ3 : EL.Env} {d e q d' e' q' r : D} {c : String} {k : Nat} {io : Bool} {xs ys : List D}
theorem callo1 (hk : ρ[k]? = some (.own io (.lst xs))) (hm : m [.own true (.lst xs)] = .ok r [.own true (.lst ys)]) : eNew (nCall m (aCons (eName k) aNil)) ρ = .ok (.val r) (ρ.set k (.own io (.lst ys))) := by
  simp [hk, hm]
theorem callo2 (hk : ρ[k]? = some (.own io (.lst xs))) (hg : g ρ = .ok (.val e) ρ) (hm : m [.own true (.lst xs), .val e] = .ok r [.own true (.lst ys), .val e']) : eNew (nCall m (aCons (eName k) (aCons g aNil))) ρ = .ok (.val r) (ρ.set k (.own io (.lst ys))) := by
  simp [hk, hg, hm]
end
end EL
namespace HD
open PySem PySem.Spec PyProof.Rows L2 EL LamX
abbrev dr (a b : Int) : EL.Slot := .own false (.lst [.int a, .int b])
theorem web_gd {n : Int} {ts : List (Int × Int)} (h : Web n ts) : gd 3 0 (webD n ts) = true := by
  have hn : 4 ≤ n ∧ n ≤ 10 := by have := h.ok; simp [okN] at this; omega
  rw [gd_tup]
  simp only [List.length_cons, List.length_nil, List.all_cons, List.all_nil, Bool.and_true, Bool.and_eq_true, decide_eq_true_eq, gd_tup, List.length_map, List.all_eq_true]
  refine ⟨by omega, ?_, by have := h.len; omega, fun d hd => ?_⟩
  · show decide _ = true
    rw [decide_eq_true_eq]
    omega
  · obtain ⟨t, ht, rfl⟩ := List.mem_map.mp hd
    have := h.tok t ht
    rw [gd_tup]
    simp only [List.length_cons, List.length_nil, List.all_cons, List.all_nil, Bool.and_true, Bool.and_eq_true, decide_eq_true_eq]
    refine ⟨by omega, ?_, ?_⟩
    · show decide _ = true
      rw [decide_eq_true_eq]; omega
    · show decide _ = true
      rw [decide_eq_true_eq]; omega
theorem web_okd {n : Int} {ts : List (Int × Int)} (h : Web n ts) : okd 60 (webD n ts) = true := okd_mono 3 60 _ (by omega) (gd_okd (web_gd h))
abbrev bentFb : EL.Env → SO := (sSeq (sSet 9 (eNew (nCall (m__law_bent 16) (aCons (eName 2) (aCons (eIf (tBl (eBin eqD (eBin modD (eCallV intD (aCons (eName 10) aNil)) (eK (.int 3))) (eK (.int 0)))) (eName 4) (eName 9)) aNil)))))
 (sIf (tNotB (tTru (eNew (nCall m__law_judged (aCons (eName 9) aNil)))))
 (sRet (eK (.bl false)))
 SO.next))
abbrev oddFb : EL.Env → SO := (sIf (tBl (eBin neD (eErr nmOf (eNew (nCall m_tied (aCons (eName 4) (aCons (eName 11) aNil))))) (eK (.str "place value"))))
 (sRet (eK (.bl false)))
 SO.next)
abbrev envL (s0 s1 : EL.Slot) (a b : Int) (s3 s4 s5 s7 s9 s10 s11 s13 s14 s15 s16 : EL.Slot) : EL.Env := [s0, s1, dr a b, s3, s4, s5, .un, s7, .un, s9, s10, s11, .un, s13, s14, s15, s16, .un]
theorem judged_at {k b : Nat} {d : D} (h : gd k b d = true) (hk : k ≤ 60) : m__law_judged [.val d] = .ok (.bl true) [.val d] := judged_ok d (okd_mono k 60 d hk (gd_okd h))
def bentInv (i : Nat) (v : D) : Prop := if i % 3 = 0 then True else if i % 3 = 1 then gd 7 1 v = true else gd 11 2 v = true
theorem bent_step (s0 s1 : EL.Slot) (a b : Int) (s3 : EL.Slot) (one : D) (s5 s7 : EL.Slot) (v : D) (i : Nat) (s11 s13 s14 s15 s16 : EL.Slot) (h1 : gd 3 0 one = true) (h2 : bentInv i v) :
    ∃ a' b' v', bentInv (i + 1) v' ∧ bentFb (envL s0 s1 a b s3 (.val one) s5 s7 (.val v) (.val (.int (i : Int))) s11 s13 s14 s15 s16) = .next (envL s0 s1 a' b' s3 (.val one) s5 s7 (.val v') (.val (.int (i : Int))) s11 s13 s14 s15 s16) := by
  have go : ∀ (u : D) (k c : Nat), (if i % 3 = 0 then one else v) = u → gd k c u = true → k ≤ 11 → c ≤ 2 → ∃ a' b' v', gd (k + 4) (c + 1) v' = true ∧ bentFb (envL s0 s1 a b s3 (.val one) s5 s7 (.val v) (.val (.int (i : Int))) s11 s13 s14 s15 s16) = .next (envL s0 s1 a' b' s3 (.val one) s5 s7 (.val v') (.val (.int (i : Int))) s11 s13 s14 s15 s16) := fun u k c e g hk hc => by
    obtain ⟨v', a', b', e1, g1⟩ := bent_ok k 16 c a b u (by omega) (by omega) (by omega) g
    have ej := judged_at g1 (by omega)
    refine ⟨a', b', v', g1, ?_⟩
    have ei : (eIf (tBl (eBin eqD (eBin modD (eCallV intD (aCons (eName 10) aNil)) (eK (.int 3))) (eK (.int 0)))) (eName 4) (eName 9)) (envL s0 s1 a b s3 (.val one) s5 s7 (.val v) (.val (.int (i : Int))) s11 s13 s14 s15 s16) = .ok (.val u) (envL s0 s1 a b s3 (.val one) s5 s7 (.val v) (.val (.int (i : Int))) s11 s13 s14 s15 s16) := by
      have em : ((i : Int) % 3 = 0) ↔ i % 3 = 0 := by omega
      by_cases z : i % 3 = 0
      · rw [if_pos z] at e
        subst e
        have z' := em.mpr z
        generalize (i : Int) = I at *
        simp [z']
      · rw [if_neg z] at e
        subst e
        have z' : ¬ ((i : Int) % 3 = 0) := fun c => z (em.mp c)
        generalize (i : Int) = I at *
        simp [z']
    have ec := callo2 (m := m__law_bent 16) (k := 2) (g := (eIf (tBl (eBin eqD (eBin modD (eCallV intD (aCons (eName 10) aNil)) (eK (.int 3))) (eK (.int 0)))) (eName 4) (eName 9))) (ρ := envL s0 s1 a b s3 (.val one) s5 s7 (.val v) (.val (.int (i : Int))) s11 s13 s14 s15 s16) (io := false) (xs := [.int a, .int b]) rfl ei e1
    rw [bentFb, sSeq_e, sSet_e, ec]
    show (sIf _ _ _) (envL s0 s1 a' b' s3 (.val one) s5 s7 (.val v') (.val (.int (i : Int))) s11 s13 s14 s15 s16) = _
    have ej2 : eNew (nCall m__law_judged (aCons (eName 9) aNil)) (envL s0 s1 a' b' s3 (.val one) s5 s7 (.val v') (.val (.int (i : Int))) s11 s13 s14 s15 s16) = .ok (.val (.bl true)) (envL s0 s1 a' b' s3 (.val one) s5 s7 (.val v') (.val (.int (i : Int))) s11 s13 s14 s15 s16) := call1 rfl ej
    rw [sIf_e, tNotB_e, tTru_e, ej2]
    rfl
  unfold bentInv at h2 ⊢
  by_cases z0 : i % 3 = 0
  · obtain ⟨a', b', v', g, e⟩ := go one 3 0 (by rw [if_pos z0]) h1 (by omega) (by omega)
    exact ⟨a', b', v', by rw [if_neg (by omega), if_pos (by omega)]; exact g, e⟩
  · rw [if_neg z0] at h2
    by_cases z1 : i % 3 = 1
    · rw [if_pos z1] at h2
      obtain ⟨a', b', v', g, e⟩ := go v 7 1 (by rw [if_neg z0]) h2 (by omega) (by omega)
      exact ⟨a', b', v', by rw [if_neg (by omega), if_neg (by omega)]; exact g, e⟩
    · rw [if_neg z1] at h2
      obtain ⟨a', b', v', g, e⟩ := go v 11 2 (by rw [if_neg z0]) h2 (by omega) (by omega)
      exact ⟨a', b', v', by rw [if_pos (by omega)]; trivial, e⟩
theorem bent_loop (s0 s1 : EL.Slot) (a b : Int) (s3 : EL.Slot) (one : D) (s5 s7 s10 s11 s13 s14 s15 s16 : EL.Slot) (h1 : gd 3 0 one = true) :
    ∃ a' b' v' s10', sFor (iRng rng1 (aCons (eK (.int 9)) aNil)) (gSet 10) bentFb (envL s0 s1 a b s3 (.val one) s5 s7 (.val one) s10 s11 s13 s14 s15 s16) = .next (envL s0 s1 a' b' s3 (.val one) s5 s7 (.val v') s10' s11 s13 s14 s15 s16) := by
  have hr := rng1_eq (j := 9) (k := 9) rfl ⟨by omega, by omega⟩
  rw [sFor_of (iRng1_of (f := eK (.int 9)) (K := 9) (ρ' := envL s0 s1 a b s3 (.val one) s5 s7 (.val one) s10 s11 s13 s14 s15 s16) rfl hr)]
  obtain ⟨ρ', h2, a', b', v', s10', _, rfl⟩ := forL (ds := (List.range 9).map fun (i : Nat) => D.int (0 + (i : Int))) (tg := gSet 10) (fb := bentFb) (ρ := envL s0 s1 a b s3 (.val one) s5 s7 (.val one) s10 s11 s13 s14 s15 s16)
    (fun pre ρ => ∃ a' b' v' s10', bentInv pre.length v' ∧ ρ = envL s0 s1 a' b' s3 (.val one) s5 s7 (.val v') s10' s11 s13 s14 s15 s16) ⟨a, b, one, s10, trivial, rfl⟩ (fun pre d post ρ e hI => by
      obtain ⟨a', b', v', s10', hv, rfl⟩ := hI
      have he := congrArg List.length e
      simp at he
      have hd : d = .int ((pre.length : Nat) : Int) := by
        have : ((List.range 9).map fun (i : Nat) => D.int (0 + (i : Int)))[pre.length]? = some d := by rw [e]; simp
        rw [List.getElem?_map, List.getElem?_range (by omega)] at this
        simp at this
        exact this.symm
      subst hd
      obtain ⟨a2, b2, v2, hv2, e2⟩ := bent_step s0 s1 a' b' s3 one s5 s7 v' pre.length s11 s13 s14 s15 s16 h1 hv
      exact ⟨_, _, rfl, e2, a2, b2, v2, _, by rw [List.length_append]; exact hv2, rfl⟩)
  exact ⟨a', b', v', s10', h2⟩
theorem odd_loop (s0 s1 : EL.Slot) (a b : Int) (s3 : EL.Slot) {n : Int} {ts : List (Int × Int)} (hw : Web n ts) (s5 s7 s9 s10 s11 s13 s14 s15 s16 : EL.Slot) :
    ∃ s11', sFor (iSeq (eTup (aCons (eK .non) (aCons (eNeg (eK (.int 1))) (aCons (eBin ixD (eName 4) (eK (.int 0))) (aCons (eK (.bl true)) (aCons (eK (.str "0")) aNil))))))) (gSet 11) oddFb (envL s0 s1 a b s3 (.val (webD n ts)) s5 s7 s9 s10 s11 s13 s14 s15 s16) = .next (envL s0 s1 a b s3 (.val (webD n ts)) s5 s7 s9 s10 s11' s13 s14 s15 s16) := by
  have e1 : iSeq (eTup (aCons (eK .non) (aCons (eNeg (eK (.int 1))) (aCons (eBin ixD (eName 4) (eK (.int 0))) (aCons (eK (.bl true)) (aCons (eK (.str "0")) aNil)))))) (envL s0 s1 a b s3 (.val (webD n ts)) s5 s7 s9 s10 s11 s13 s14 s15 s16) = .ok (.of [.non, .int (-1), .int n, .bl true, .str "0"]) (envL s0 s1 a b s3 (.val (webD n ts)) s5 s7 s9 s10 s11 s13 s14 s15 s16) :=
    iSeq_tup (by simp [storeL, negO])
  rw [sFor_of e1]
  obtain ⟨ρ', h2, s11', rfl⟩ := forL (ds := [.non, .int (-1), .int n, .bl true, .str "0"]) (tg := gSet 11) (fb := oddFb) (ρ := envL s0 s1 a b s3 (.val (webD n ts)) s5 s7 s9 s10 s11 s13 s14 s15 s16)
    (fun pre ρ => ∃ s11', ρ = envL s0 s1 a b s3 (.val (webD n ts)) s5 s7 s9 s10 s11' s13 s14 s15 s16) ⟨s11, rfl⟩ (fun pre d post ρ e hI => by
      obtain ⟨s11', rfl⟩ := hI
      have hd : d ∈ [D.non, .int (-1), .int n, .bl true, .str "0"] := by rw [e]; simp
      have hq : typed d = true ∧ wholeB d 0 (n - 1) = false := by
        simp at hd
        rcases hd with rfl | rfl | rfl | rfl | rfl
        · exact ⟨rfl, rfl⟩
        · exact ⟨rfl, rfl⟩
        · exact ⟨rfl, by simp [wholeB]; omega⟩
        · exact ⟨rfl, rfl⟩
        · exact ⟨rfl, rfl⟩
      have et := tied_off n ts d (web_okd hw) (webB_iff.mpr hw) hq.1 hq.2
      refine ⟨envL s0 s1 a b s3 (.val (webD n ts)) s5 s7 s9 s10 (.val d) s13 s14 s15 s16, envL s0 s1 a b s3 (.val (webD n ts)) s5 s7 s9 s10 (.val d) s13 s14 s15 s16, rfl, ?_, .val d, rfl⟩
      have ec : eNew (nCall m_tied (aCons (eName 4) (aCons (eName 11) aNil))) (envL s0 s1 a b s3 (.val (webD n ts)) s5 s7 s9 s10 (.val d) s13 s14 s15 s16) = .err "InvalidPlace" (envL s0 s1 a b s3 (.val (webD n ts)) s5 s7 s9 s10 (.val d) s13 s14 s15 s16) := callE2 rfl rfl et
      have ee : eErr nmOf (eNew (nCall m_tied (aCons (eName 4) (aCons (eName 11) aNil)))) (envL s0 s1 a b s3 (.val (webD n ts)) s5 s7 s9 s10 (.val d) s13 s14 s15 s16) = .ok (.val (.str "place value")) (envL s0 s1 a b s3 (.val (webD n ts)) s5 s7 s9 s10 (.val d) s13 s14 s15 s16) := by
        unfold eErr
        rw [ec]
        kernel_rfl
      have en : neD (.str "place value") (.str "place value") = some (.bl false) := by kernel_rfl
      rw [oddFb, sIf_e, tBl_e, eBin_e, ee]
      simp [en])
  exact ⟨s11', h2⟩
end HD

namespace EL
open PySem PySem.Spec PyProof.Rows L2
/-! ### rules of evaluation, one for each construct -/
section
variable {f g h : EL.Env → Out Rv} {t u : EL.Env → Out Bool} {s s' : EL.Env → SO} {fr : EL.Env → Out (List Rv)} {fl : EL.Env → Out (List D)} {fn : EL.Env → Out NV} {ρ ρ1 ρ2 ρ3 : EL.Env} {d e z : D} {x y : Rv} {b : Bool} {c : String} {i k : Nat} {op : D → D → Option D} {xs ys ds : List D} {rs : List Rv} {r : Rv} {io : Bool} {T : String}
theorem v_name (h : ρ[i]? = some (.val d)) : eName i ρ = .ok (.val d) ρ := by unfold eName; rw [h]
theorem v_own {o : OD} (h : ρ[i]? = some (.own io o)) : eName i ρ = .ok (.slot i) ρ := by unfold eName; rw [h]
theorem v_bin (ha : f ρ = .ok (.val d) ρ1) (hb : g ρ1 = .ok (.val e) ρ2) (hg : op d e = some z) : eBin op f g ρ = .ok (.val z) ρ2 := by
  rw [eBin_e, ha, Out.bind_ok, hb, Out.bind_ok, ap2_val, hg]; rfl
theorem v_binS (ha : f ρ = .ok x ρ1) (hb : g ρ1 = .ok y ρ2) (hx : deref x ρ2 = some d) (hy : deref y ρ2 = some e) (hg : op d e = some z) : eBin op f g ρ = .ok (.val z) ρ2 := by
  rw [eBin_e, ha, Out.bind_ok, hb, Out.bind_ok]
  unfold ap2
  rw [hx, hy]
  dsimp only
  rw [hg]; rfl
theorem v_ifT (ht : t ρ = .ok true ρ1) : eIf t f g ρ = f ρ1 := by rw [eIf_e, ht]; rfl
theorem v_ifF (ht : t ρ = .ok false ρ1) : eIf t f g ρ = g ρ1 := by rw [eIf_e, ht]; rfl
theorem v_not (ha : f ρ = .ok (.val d) ρ1) (hb : truD d = some b) : eNot f ρ = .ok (.val (.bl !b)) ρ1 := by
  rw [eNot_e, ha, Out.bind_ok, truR_val, hb]; rfl
theorem v_andT (ha : f ρ = .ok (.val d) ρ1) (hb : truD d = some true) : eAnd f g ρ = g ρ1 := by
  rw [eAnd_e, ha, Out.bind_ok, truR_val, hb]
theorem v_andF (ha : f ρ = .ok (.val d) ρ1) (hb : truD d = some false) : eAnd f g ρ = .ok (.val d) ρ1 := by
  rw [eAnd_e, ha, Out.bind_ok, truR_val, hb]
theorem v_orT (ha : f ρ = .ok (.val d) ρ1) (hb : truD d = some true) : eOr f g ρ = .ok (.val d) ρ1 := by
  rw [eOr_e, ha, Out.bind_ok, truR_val, hb]
theorem v_orF (ha : f ρ = .ok (.val d) ρ1) (hb : truD d = some false) : eOr f g ρ = g ρ1 := by
  rw [eOr_e, ha, Out.bind_ok, truR_val, hb]
theorem a_nil : aNil ρ = .ok [] ρ := rfl
theorem a_cons (ha : f ρ = .ok x ρ1) (hr : fr ρ1 = .ok rs ρ2) : aCons f fr ρ = .ok (x :: rs) ρ2 := by
  rw [aCons_e, ha, Out.bind_ok, hr]; rfl
theorem v_tup (ha : fr ρ = .ok rs ρ1) (hs : storeL rs = some ds) : eTup fr ρ = .ok (.val (.tup ds)) ρ1 := by
  rw [eTup_e, ha, Out.bind_ok, hs]; rfl
theorem v_lst (ha : fr ρ = .ok rs ρ1) (hs : storeL rs = some ds) : eLst fr ρ = .ok (.val (.lst ds)) ρ1 := by
  rw [eLst_e, ha, Out.bind_ok, hs]; rfl
theorem f_lst (ha : fr ρ = .ok rs ρ1) (hs : storeL rs = some ds) : fLst fr ρ = .ok ds ρ1 := by
  rw [fLst_e, ha, Out.bind_ok, hs]; rfl
theorem v_call {op : List D → Option D} (ha : fr ρ = .ok rs ρ1) (hd : derefAll rs ρ1 = some ds) (ho : op ds = some z) : eCallV op fr ρ = .ok (.val z) ρ1 := by
  rw [eCallV_e, ha, Out.bind_ok, hd, Option.bind_some, ho]; rfl
theorem v_call1 {op : List D → Option D} (ha : f ρ = .ok (.val d) ρ1) (ho : op [d] = some z) : eCallV op (aCons f aNil) ρ = .ok (.val z) ρ1 := by
  rw [eCallV_e, aCons_e, ha, Out.bind_ok, aNil_e, Out.bind_ok, Out.bind_ok]
  show Out.of ((Option.bind (some [d]) op).map Rv.val) ρ1 = _
  rw [Option.bind_some, ho]; rfl
theorem v_callS {op : List D → Option D} (ha : f ρ = .ok x ρ1) (hx : deref x ρ1 = some d) (ho : op [d] = some z) : eCallV op (aCons f aNil) ρ = .ok (.val z) ρ1 := by
  have hd : derefAll [x] ρ1 = some [d] := by
    unfold derefAll
    simp [hx, derefAll]
  exact v_call (a_cons ha a_nil) hd ho
theorem v_isi (ha : f ρ = .ok (.val d) ρ1) (ho : isiD T d = some z) : eIsi T f ρ = .ok (.val z) ρ1 := by
  rw [eIsi_e, ha, Out.bind_ok, deref_val, Option.bind_some, ho]; rfl
theorem v_fresh (ha : fl ρ = .ok ds ρ1) : eFresh fl ρ = .ok (.val (.lst ds)) ρ1 := by rw [eFresh_e, ha]; rfl
theorem v_slice {fl fh : EL.Env → Out (Option Int)} {lo hi : Option Int} (ha : f ρ = .ok (.val d) ρ1) (hl : fl ρ1 = .ok lo ρ2) (hh : fh ρ2 = .ok hi ρ3) (ho : slD d lo hi = some z) : eSl f fl fh ρ = .ok (.val z) ρ3 := by
  rw [eSl_e, ha, Out.bind_ok, hl, Out.bind_ok, hh, Out.bind_ok, deref_val, Option.bind_some, ho]; rfl
theorem o_none : poNone ρ = .ok none ρ := rfl
theorem o_some {j : Int} (ha : f ρ = .ok (.val (.int j)) ρ1) : poSome f ρ = .ok (some j) ρ1 := by rw [poSome_e, ha]; rfl
theorem v_rev (ha : f ρ = .ok (.val d) ρ1) (ho : revD d = some z) : eRev f ρ = .ok (.val z) ρ1 := by rw [eRev_e, ha, Out.bind_ok, deref_val, Option.bind_some, ho]; rfl
theorem v_rev0 (ha : f ρ = .ok (.val d) ρ1) (ho : rev0D d = some z) : eRev0 f ρ = .ok (.val z) ρ1 := by rw [eRev0_e, ha, Out.bind_ok, deref_val, Option.bind_some, ho]; rfl
theorem v_err {nm : String → Option Str} {w : Str} (ha : f ρ = .err c ρ1) (hn : nm c = some w) (hc : c ≠ "TooMany") : eErr nm f ρ = .ok (.val (.str w)) ρ1 := by
  unfold eErr
  rw [ha]
  dsimp only
  rw [hn]
  dsimp only
  rw [if_neg hc]
theorem v_noerr {nm : String → Option Str} (ha : f ρ = .ok x ρ1) : eErr nm f ρ = .ok (.val (.str "")) ρ1 := by
  unfold eErr
  rw [ha]
theorem t_tru (ha : f ρ = .ok (.val d) ρ1) (hb : truD d = some b) : tTru f ρ = .ok b ρ1 := by rw [tTru_e, ha, Out.bind_ok, truR_val, hb]; rfl
theorem t_truS (ha : f ρ = .ok x ρ1) (hx : deref x ρ1 = some d) (hb : truD d = some b) : tTru f ρ = .ok b ρ1 := by rw [tTru_e, ha, Out.bind_ok, truR_e, hx, Option.bind_some, hb]; rfl
theorem t_bl (ha : f ρ = .ok (.val (.bl b)) ρ1) : tBl f ρ = .ok b ρ1 := by rw [tBl_e, ha]; rfl
theorem t_not (ha : t ρ = .ok b ρ1) : tNotB t ρ = .ok (!b) ρ1 := by rw [tNotB_e, ha]; rfl
theorem t_orT (ha : t ρ = .ok true ρ1) : tOrB t u ρ = .ok true ρ1 := by rw [tOrB_e, ha]; rfl
theorem t_orF (ha : t ρ = .ok false ρ1) : tOrB t u ρ = u ρ1 := by rw [tOrB_e, ha]; rfl
theorem t_andT (ha : t ρ = .ok true ρ1) : tAndB t u ρ = u ρ1 := by rw [tAndB_e, ha]; rfl
theorem t_andF (ha : t ρ = .ok false ρ1) : tAndB t u ρ = .ok false ρ1 := by rw [tAndB_e, ha]; rfl
/-- both sides told, and each leaves the names as they are -/
theorem t_or {b' : Bool} (ha : t ρ = .ok b ρ) (hb : b = false → u ρ = .ok b' ρ) : tOrB t u ρ = .ok (b || b') ρ := by
  cases b with
  | true => rw [t_orT ha]; rfl
  | false => rw [t_orF ha, hb rfl]; rfl
theorem t_and {b' : Bool} (ha : t ρ = .ok b ρ) (hb : b = true → u ρ = .ok b' ρ) : tAndB t u ρ = .ok (b && b') ρ := by
  cases b with
  | true => rw [t_andT ha, hb rfl]; rfl
  | false => rw [t_andF ha]; rfl
theorem s_n (hs : s ρ = .next ρ1) : sSeq s s' ρ = s' ρ1 := by rw [sSeq_e, hs]; rfl
theorem s_r (hs : s ρ = .ret r ρ1) : sSeq s s' ρ = .ret r ρ1 := by rw [sSeq_e, hs]; rfl
theorem s_e (hs : s ρ = .err c ρ1) : sSeq s s' ρ = .err c ρ1 := by rw [sSeq_e, hs]; rfl
theorem s_ifT (ht : t ρ = .ok true ρ1) : sIf t s s' ρ = s ρ1 := by rw [sIf_e, ht]; rfl
theorem s_ifF (ht : t ρ = .ok false ρ1) : sIf t s s' ρ = s' ρ1 := by rw [sIf_e, ht]; rfl
theorem s_ifE (ht : t ρ = .err c ρ1) : sIf t s s' ρ = .err c ρ1 := by rw [sIf_e, ht]; rfl
theorem s_ret (ha : f ρ = .ok r ρ1) : sRet f ρ = .ret r ρ1 := by rw [sRet_e, ha]; rfl
theorem s_retE (ha : f ρ = .err c ρ1) : sRet f ρ = .err c ρ1 := by rw [sRet_e, ha]; rfl
theorem s_expr (ha : f ρ = .ok r ρ1) : sExpr f ρ = .next ρ1 := by rw [sExpr_e, ha]; rfl
theorem s_exprE (ha : f ρ = .err c ρ1) : sExpr f ρ = .err c ρ1 := by rw [sExpr_e, ha]; rfl
theorem s_set (ha : f ρ = .ok (.val d) ρ1) : sSet i f ρ = .next (ρ1.set i (.val d)) := by rw [sSet_e, ha]; rfl
theorem s_own (ha : fl ρ = .ok ds ρ1) : sOwn i fl ρ = .next (ρ1.set i (.own false (.lst ds))) := by rw [sOwn_e, ha]; rfl
theorem s_newL (ha : fl ρ = .ok ds ρ1) : sNew i (nFv fl) ρ = .next (ρ1.set i (.own false (.lst ds))) := by rw [sNew_e, nFv_e, ha]; rfl
theorem s_newV (ha : f ρ = .ok (.val d) ρ1) : sNew i (nEv f) ρ = .next (ρ1.set i (.val d)) := by rw [sNew_e, nEv_e, ha]; rfl
theorem s_for {fi : EL.Env → Out CSrc} {tg : Tg} (h : fi ρ = .ok (.of ds) ρ1) (hf : forN (.of ds) tg s ds.length 0 ρ1 = .next ρ2) : sFor fi tg s ρ = .next ρ2 := by rw [sFor_of h, hf]
theorem s_set' (ha : f ρ = .ok (.val d) ρ1) (he : ρ1.set i (.val d) = ρ2) : sSet i f ρ = .next ρ2 := by rw [s_set ha, he]
theorem s_own' (ha : fl ρ = .ok ds ρ1) (he : ρ1.set i (.own false (.lst ds)) = ρ2) : sOwn i fl ρ = .next ρ2 := by rw [s_own ha, he]
theorem s_newL' (ha : fl ρ = .ok ds ρ1) (he : ρ1.set i (.own false (.lst ds)) = ρ2) : sNew i (nFv fl) ρ = .next ρ2 := by rw [s_newL ha, he]
theorem s_newV' (ha : f ρ = .ok (.val d) ρ1) (he : ρ1.set i (.val d) = ρ2) : sNew i (nEv f) ρ = .next ρ2 := by rw [s_newV ha, he]
/-- a method of what a name owns -/
theorem v_meth {mop : List D → List D → Option (D × List D)} {rs : List Rv} {ρ1 : EL.Env} (h0 : ρ[k]? = some (.own io (.lst xs))) (ha : fr ρ = .ok rs ρ1) (hd : storeAll rs = some ds) (h1 : ρ1[k]? = some (.own io (.lst xs))) (ho : mop xs ds = some (d, ys)) : eMeth mop k fr ρ = .ok (.val d) (ρ1.set k (.own io (.lst ys))) := by
  rw [eMeth_e, lstAt_e, h0]
  dsimp only
  rw [ha, Out.bind_ok]
  unfold mAnsw
  rw [hd, lstAt_e, h1]
  dsimp only
  rw [ho]
theorem v_app (h0 : ρ[k]? = some (.own io (.lst xs))) (ha : f ρ = .ok (.val e) ρ1) (h1 : ρ1[k]? = some (.own io (.lst xs))) (hl : xs.length < 16777216) : eMeth appO k (aCons f aNil) ρ = .ok (.val .non) (ρ1.set k (.own io (.lst (xs ++ [e])))) :=
  v_meth (ds := [e]) h0 (a_cons ha a_nil) (by simp) h1 (by show (if _ then _ else _) = _; rw [if_pos hl])
end
end EL

namespace HD
open PySem PySem.Spec PyProof.Rows L2 EL LamX
theorem eqd_refl {n : Nat} {d : D} (h : okd n d = true) : eqd d d = true := SeqAt.eqv_refl _ (okd_plain n d h).2.1
theorem neD_refl {d : D} (h : okd 60 d = true) : neD d d = some (.bl false) := by
  show (if _ then _ else _) = _
  rw [if_pos ⟨h, h⟩, eqd_refl h]
  rfl
theorem eqD_refl {d : D} (h : okd 60 d = true) : eqD d d = some (.bl true) := by
  show (if _ then _ else _) = _
  rw [if_pos ⟨h, h⟩, eqd_refl h]
theorem eqD_nil {xs : List D} (h : okd 60 (.lst xs) = true) : eqD (.lst xs) (.lst []) = some (.bl xs.isEmpty) := by
  show (if _ then _ else _) = _
  rw [if_pos ⟨h, rfl⟩]
  cases xs <;> rfl
theorem sI_okd (xs : List Int) (k : Nat) : okd (k + 1) (.lst (sI xs)) = true := by
  rw [okd_lst, List.all_eq_true]
  intro d hd
  obtain ⟨i, rfl⟩ := sI_int xs d hd
  simp
/-- the rows of a web -/
def rowsD (n : Nat) (ts : List (Int × Int)) : List D := (List.range n).map fun (i : Nat) => .lst (sI (nearI ts (i : Int)))
theorem rowsD_okd (n : Nat) (ts : List (Int × Int)) : okd 60 (.lst (rowsD n ts)) = true := by
  rw [okd_lst, List.all_eq_true]
  intro d hd
  obtain ⟨i, _, rfl⟩ := List.mem_map.mp hd
  exact sI_okd _ 58
abbrev turnA : EL.Env → SO := (sSet 4 (eNew (nCall m__law_web (aCons (eName 2) (aCons (eK (.int 10)) aNil)))))
abbrev turnB : EL.Env → SO := (sIf (tOrB (tNotB (tTru (eNew (nCall m__law_judged (aCons (eName 4) aNil))))) (tNotB (tTru (eNew (nCall m__law_is_web (aCons (eName 4) aNil))))))
 (sRet (eK (.bl false)))
 SO.next)
abbrev turnC : EL.Env → SO := (sOwn 5 (eCompL (iRng rng1 (aCons (eBin ixD (eName 4) (eK (.int 0))) aNil)) [6] (gSet 6) tYesB (eNew (nCall m__law_near (aCons (eName 4) (aCons (eName 6) aNil))))))
abbrev turnD : EL.Env → SO := (sIf (tBl (eBin neD (eFresh (eCompL (iRng rng1 (aCons (eBin ixD (eName 4) (eK (.int 0))) aNil)) [6] (gSet 6) tYesB (eNew (nCall m_tied (aCons (eName 4) (aCons (eName 6) aNil)))))) (eName 5)))
 (sRet (eK (.bl false)))
 SO.next)
abbrev turnE : EL.Env → SO := (sSet 7 (eBin eqD (eFresh (eCompL (iSeq (eName 5)) [8] (gSet 8) (tBl (eBin neD (eCallV lenD (aCons (eName 8) aNil)) (eK (.int 3)))) (eName 8))) (eLst aNil)))
abbrev turnF : EL.Env → SO := (sIf (tOrB (tBl (eBin neD (eNew (nCall m_is_of_threes (aCons (eName 4) aNil))) (eName 7))) (tNotB (tTru (eIsi "bool" (eNew (nCall m_is_of_threes (aCons (eName 4) aNil)))))))
 (sRet (eK (.bl false)))
 SO.next)
abbrev turnG : EL.Env → SO := (sSet 9 (eName 4))
abbrev turnH : EL.Env → SO := sFor (iRng rng1 (aCons (eK (.int 9)) aNil)) (gSet 10) bentFb
abbrev turnI : EL.Env → SO := sFor (iSeq (eTup (aCons (eK .non) (aCons (eNeg (eK (.int 1))) (aCons (eBin ixD (eName 4) (eK (.int 0))) (aCons (eK (.bl true)) (aCons (eK (.str "0")) aNil))))))) (gSet 11) oddFb
theorem web_bounds {n : Int} {ts : List (Int × Int)} (h : Web n ts) : 4 ≤ n ∧ n ≤ 10 ∧ ts.length ≤ 15 := by
  have := h.ok
  have := h.len
  simp [okN] at *
  omega
theorem rows_filter (n : Nat) (ts : List (Int × Int)) : (((List.range n).filter fun (i : Nat) => !decide (((sI (nearI ts (i : Int))).length : Int) = 3)).map fun (i : Nat) => D.lst (sI (nearI ts (i : Int)))).isEmpty = threesB n ts := by
  unfold threesB
  rw [Int.toNat_natCast, Bool.eq_iff_iff, List.isEmpty_iff, List.map_eq_nil_iff, List.filter_eq_nil_iff, List.all_eq_true]
  constructor
  · intro h i hi
    have := h i hi
    rw [sI_len] at this
    simpa [threeP] using this
  · intro h i hi
    have := h i hi
    rw [sI_len]
    simpa [threeP] using this
theorem turn_ok1 (s0 s1 : EL.Slot) (a b : Int) (s3 s4 s5 s7 s9 s10 s11 s13 s14 s15 s16 : EL.Slot) (rest : EL.Env → SO) :
    ∃ n ts a' b' s5' s7', Web n ts ∧ sSeq turnA (sSeq turnB (sSeq turnC (sSeq turnD (sSeq turnE (sSeq turnF (sSeq turnG rest)))))) (envL s0 s1 a b s3 s4 s5 s7 s9 s10 s11 s13 s14 s15 s16) = rest (envL s0 s1 a' b' s3 (.val (webD n ts)) s5' s7' (.val (webD n ts)) s10 s11 s13 s14 s15 s16) := by
  obtain ⟨n, ts, a', b', e1, hw, hn⟩ := web_ok a b 10 (.inl rfl)
  obtain ⟨n4, n10, tl⟩ := web_bounds hw
  obtain ⟨m, rfl⟩ := Int.eq_ofNat_of_zero_le (show 0 ≤ n by omega)
  have ho := web_okd hw
  have hB := webB_iff.mpr hw
  refine ⟨m, ts, a', b', .own false (.lst (rowsD m ts)), .val (.bl (threesB m ts)), hw, ?_⟩
  have cA : turnA (envL s0 s1 a b s3 s4 s5 s7 s9 s10 s11 s13 s14 s15 s16) = .next (envL s0 s1 a' b' s3 (.val (webD m ts)) s5 s7 s9 s10 s11 s13 s14 s15 s16) :=
    s_set (callo2 (io := false) (xs := [.int a, .int b]) rfl rfl e1)
  rw [s_n cA]
  have cB : turnB (envL s0 s1 a' b' s3 (.val (webD m ts)) s5 s7 s9 s10 s11 s13 s14 s15 s16) = .next (envL s0 s1 a' b' s3 (.val (webD m ts)) s5 s7 s9 s10 s11 s13 s14 s15 s16) := by
    have j1 := judged_ok (webD m ts) ho
    have j2 := law_is_web_eq (webD m ts) ho
    rw [hB] at j2
    exact s_ifF ((t_orF (t_not (t_tru (call1 rfl j1) rfl))).trans (t_not (t_tru (call1 rfl j2) rfl)))
  rw [s_n cB]
  have hr := rng1_eq (j := (m : Int)) (k := m) (Int.toNat_natCast _) ⟨by omega, by omega⟩
  have e0 : ∀ i : Nat, (0 : Int) + (i : Int) = (i : Int) := fun i => Int.zero_add _
  have cC0 : eCompL (iRng rng1 (aCons (eBin ixD (eName 4) (eK (.int 0))) aNil)) [6] (gSet 6) tYesB (eNew (nCall m__law_near (aCons (eName 4) (aCons (eName 6) aNil)))) (envL s0 s1 a' b' s3 (.val (webD m ts)) s5 s7 s9 s10 s11 s13 s14 s15 s16) = .ok ((List.range m).map fun (i : Nat) => D.lst (sI (nearI ts (i : Int)))) (envL s0 s1 a' b' s3 (.val (webD m ts)) s5 s7 s9 s10 s11 s13 s14 s15 s16) :=
    eCompL_valAll (xs := List.range m) (mk := fun (i : Nat) => D.int (0 + (i : Int))) (ρ1 := envL s0 s1 a' b' s3 (.val (webD m ts)) s5 s7 s9 s10 s11 s13 s14 s15 s16) (ρ0 := envL s0 s1 a' b' s3 (.val (webD m ts)) s5 s7 s9 s10 s11 s13 s14 s15 s16) (fun i => .lst (sI (nearI ts (i : Int)))) (by simp; omega) (iRng1_of (K := (m : Int)) rfl hr) rfl fun i hi => ⟨_, rfl, by
        rw [e0]
        exact call2 rfl rfl (law_near_eq m ts i (by omega)), rfl⟩
  have cC : turnC (envL s0 s1 a' b' s3 (.val (webD m ts)) s5 s7 s9 s10 s11 s13 s14 s15 s16) = .next (envL s0 s1 a' b' s3 (.val (webD m ts)) (.own false (.lst (rowsD m ts))) s7 s9 s10 s11 s13 s14 s15 s16) := by
    rw [turnC, s_own cC0]
    rfl
  rw [s_n cC]
  have cD : turnD (envL s0 s1 a' b' s3 (.val (webD m ts)) (.own false (.lst (rowsD m ts))) s7 s9 s10 s11 s13 s14 s15 s16) = .next (envL s0 s1 a' b' s3 (.val (webD m ts)) (.own false (.lst (rowsD m ts))) s7 s9 s10 s11 s13 s14 s15 s16) := by
    have hq : neD (.lst ((List.range m).map fun (i : Nat) => D.lst (sI (nearI ts (i : Int))))) (.lst (rowsD m ts)) = some (.bl false) := neD_refl (rowsD_okd m ts)
    exact s_ifF (t_bl (v_binS (v_fresh (eCompL_valAll (xs := List.range m) (mk := fun (i : Nat) => D.int (0 + (i : Int))) (ρ1 := envL s0 s1 a' b' s3 (.val (webD m ts)) (.own false (.lst (rowsD m ts))) s7 s9 s10 s11 s13 s14 s15 s16) (fun i => .lst (sI (nearI ts (i : Int)))) (by simp; omega) (iRng1_of (K := (m : Int)) rfl hr) rfl fun i hi => ⟨_, rfl, by
        rw [e0]
        have := List.mem_range.mp hi
        exact call2 rfl rfl (tied_eq m ts i ho hB tl (by omega)), rfl⟩)) (v_own rfl) rfl rfl hq))
  rw [s_n cD]
  have cE : turnE (envL s0 s1 a' b' s3 (.val (webD m ts)) (.own false (.lst (rowsD m ts))) s7 s9 s10 s11 s13 s14 s15 s16) = .next (envL s0 s1 a' b' s3 (.val (webD m ts)) (.own false (.lst (rowsD m ts))) (.val (.bl (threesB m ts))) s9 s10 s11 s13 s14 s15 s16) := by
    have hE := rows_filter m ts
    have hok : okd 60 (.lst (((List.range m).filter fun (i : Nat) => !decide (((sI (nearI ts (i : Int))).length : Int) = 3)).map fun (i : Nat) => D.lst (sI (nearI ts (i : Int))))) = true := by
      rw [okd_lst, List.all_eq_true]
      intro d hd
      obtain ⟨i, _, rfl⟩ := List.mem_map.mp hd
      exact sI_okd _ 58
    have hq := eqD_nil hok
    rw [hE] at hq
    exact s_set (v_bin (v_fresh (eCompL_own (xs := List.range m) (mk := fun (i : Nat) => D.lst (sI (nearI ts (i : Int)))) (io := false) (ρ0 := envL s0 s1 a' b' s3 (.val (webD m ts)) (.own false (.lst (rowsD m ts))) s7 s9 s10 s11 s13 s14 s15 s16) (fun (i : Nat) => !decide (((sI (nearI ts (i : Int))).length : Int) = 3)) (fun (i : Nat) => D.lst (sI (nearI ts (i : Int)))) (by simp; omega) rfl rfl rfl rfl fun i hi => ⟨_, rfl, (by simp), fun _ => rfl, rfl⟩)) (v_lst a_nil rfl) hq)
  rw [s_n cE]
  have cF : turnF (envL s0 s1 a' b' s3 (.val (webD m ts)) (.own false (.lst (rowsD m ts))) (.val (.bl (threesB m ts))) s9 s10 s11 s13 s14 s15 s16) = .next (envL s0 s1 a' b' s3 (.val (webD m ts)) (.own false (.lst (rowsD m ts))) (.val (.bl (threesB m ts))) s9 s10 s11 s13 s14 s15 s16) := by
    have q := is_of_threes_eq (webD m ts) ho
    have e : threesD (webD m ts) = threesB m ts := by
      show threesB m ((ts.map tieD).map tieOf) = _
      rw [tieOf_tieD]
    rw [if_pos hB, e] at q
    have c := call1 (m := m_is_of_threes) (f := eName 4) (ρ := envL s0 s1 a' b' s3 (.val (webD m ts)) (.own false (.lst (rowsD m ts))) (.val (.bl (threesB m ts))) s9 s10 s11 s13 s14 s15 s16) rfl q
    have c1 : tBl (eBin neD (eNew (nCall m_is_of_threes (aCons (eName 4) aNil))) (eName 7)) (envL s0 s1 a' b' s3 (.val (webD m ts)) (.own false (.lst (rowsD m ts))) (.val (.bl (threesB m ts))) s9 s10 s11 s13 s14 s15 s16) = .ok false _ :=
      t_bl (v_bin c (v_name rfl) (neD_refl rfl))
    have c2 : tNotB (tTru (eIsi "bool" (eNew (nCall m_is_of_threes (aCons (eName 4) aNil))))) (envL s0 s1 a' b' s3 (.val (webD m ts)) (.own false (.lst (rowsD m ts))) (.val (.bl (threesB m ts))) s9 s10 s11 s13 s14 s15 s16) = .ok false _ :=
      t_not (t_tru (b := true) (v_isi (z := .bl true) c rfl) rfl)
    exact s_ifF ((t_orF c1).trans c2)
  rw [s_n cF]
  exact s_n (s_set rfl)
end HD

namespace EL
open PySem PySem.Spec PyProof.Rows L2
section
variable {m : List EL.Slot → FR} {f g h : EL.Env → Out Rv} {ρ ρ1 ρ2 ρ3 : EL.Env} {d e d' e' : D} {i : Nat} {ds : List D} {fr : EL.Env → Out (List Rv)}
theorem ncall2 (hf : f ρ = .ok (.val d) ρ1) (hg : g ρ1 = .ok (.val e) ρ2) (hm : m [.val d, .val e] = .new (.lst ds) [.val d', .val e']) : nCall m (aCons f (aCons g aNil)) ρ = .ok (.new (.lst ds)) ρ2 := by
  simp [hf, hg, hm]
theorem s_newC (ha : nCall m fr ρ = .ok (.new (.lst ds)) ρ1) : sNew i (nCall m fr) ρ = .next (ρ1.set i (.own false (.lst ds))) := by rw [sNew_e, ha]; rfl
theorem s_par3 {i j l : Nat} {a b c : D} (ha : fr ρ = .ok [.val a, .val b, .val c] ρ1) : sPar3 i j l fr ρ = .next (((ρ1.set i (.val a)).set j (.val b)).set l (.val c)) := by rw [sPar3_e, ha]; rfl
theorem call0 (hm : m [] = .ok d []) : eNew (nCall m aNil) ρ = .ok (.val d) ρ := by simp [hm]
end
end EL
namespace HD
open PySem PySem.Spec PyProof.Rows L2 EL LamX
/-! ### the places tied to one, ascending -/
theorem near_asc {n : Int} {ts : List (Int × Int)} (hn : n ≤ 10) (ha : Asc ts) (ht : ∀ t ∈ ts, 0 ≤ t.1 ∧ t.1 < t.2 ∧ t.2 < n) (p : Int) : (nearI ts p).Pairwise (· < ·) := by
  unfold nearI
  rw [List.pairwise_map]
  have h1 : (ts.filter (nearB p)).Pairwise fun t u => codeP t < codeP u := List.Pairwise.filter _ ha
  refine h1.imp_of_mem fun {t u} h2 h3 h4 => ?_
  obtain ⟨m1, b1⟩ := List.mem_filter.mp h2
  obtain ⟨m2, b2⟩ := List.mem_filter.mp h3
  have v1 := ht t m1
  have v2 := ht u m2
  unfold nearB at b1 b2
  simp at b1 b2
  unfold codeP at h4
  omega
theorem sI_asc {xs : List Int} (h : xs.Pairwise (· < ·)) : sI xs = xs.map .int := by
  unfold sI sortD
  refine List.mergeSort_of_pairwise ?_
  rw [List.pairwise_map]
  refine h.imp fun {a b} hab => ?_
  have := dle_int a b
  unfold dle at this
  rw [this, decide_eq_true_eq]
  omega
theorem sI_web {n : Int} {ts : List (Int × Int)} (h : Web n ts) (p : Int) : sI (nearI ts p) = (nearI ts p).map .int := sI_asc (near_asc (web_bounds h).2.1 h.asc h.tok p)
/-! ### the end of the law -/
def badW : List D := [.tup [.int 4, .tup [.tup [.int 0, .int 1], .tup [.int 1, .int 2], .tup [.int 2, .int 3]]], .tup [.int 4, .tup [.tup [.int 1, .int 0], .tup [.int 2, .int 3]]], .tup [.int 5, .tup []], .tup [.int 4, .tup []], .tup [.int 2, .tup [.tup [.int 0, .int 1]]], .tup [.int 12, .tup []]]
def badX : D := .tup [.int 4, .tup [.tup [.int 2, .int 3], .tup [.int 0, .int 1]]]
def goodX : D := .tup [.int 4, .tup [.tup [.int 0, .int 1], .tup [.int 2, .int 3]]]
theorem bad_all : ∀ d ∈ badW ++ [badX], webB d = false ∧ okd 60 d = true := by
  have : (badW ++ [badX]).all (fun d => !webB d && okd 60 d) = true := by decide +kernel
  rw [List.all_eq_true] at this
  intro d hd
  have := this d hd
  simpa using this
theorem is_web_at {d : D} {b : Bool} (ho : okd 60 d = true) (hw : webB d = b) : m_is_web [.val d] = .ok (.bl b) [.val d] := by
  rw [is_web_eq d ho, hw]
theorem is_threes_at {n : Int} {ts : List (Int × Int)} {b : Bool} (h : Web n ts) (hb : threesB n ts = b) : m_is_of_threes [.val (webD n ts)] = .ok (.bl b) [.val (webD n ts)] := by
  have q := is_of_threes_eq (webD n ts) (web_okd h)
  have e : threesD (webD n ts) = threesB n ts := by
    show threesB n ((ts.map tieD).map tieOf) = _
    rw [tieOf_tieD]
  rw [if_pos (webB_iff.mpr h), e, hb] at q
  exact q
def manyT : List (Int × Int) := (pairsI 8).filter fun t => decide (t.2 - t.1 = 1) || (decide (t.2 - t.1 = 4) || decide (t.2 - t.1 = 7))
abbrev tl1 : EL.Env → SO := (sFor (iSeq (eNew (nCall m__law_written aNil))) (gSet 4)
 (sIf (tBl (eBin isnD (eNew (nCall m_is_web (aCons (eName 4) aNil))) (eK (.bl true))))
 (sRet (eK (.bl false)))
 SO.next))
abbrev tupI (a b : Int) : EL.Env → Out Rv := eTup (aCons (eK (.int a)) (aCons (eK (.int b)) aNil))
abbrev tl2 : EL.Env → SO := (sNew 5 (nFv (fLst (aCons (eTup (aCons (eK (.int 4)) (aCons (eTup (aCons (eTup (aCons (eK (.int 0)) (aCons (eK (.int 1)) aNil))) (aCons (eTup (aCons (eK (.int 1)) (aCons (eK (.int 2)) aNil))) (aCons (eTup (aCons (eK (.int 2)) (aCons (eK (.int 3)) aNil))) aNil)))) aNil))) (aCons (eTup (aCons (eK (.int 4)) (aCons (eTup (aCons (eTup (aCons (eK (.int 1)) (aCons (eK (.int 0)) aNil))) (aCons (eTup (aCons (eK (.int 2)) (aCons (eK (.int 3)) aNil))) aNil))) aNil))) (aCons (eTup (aCons (eK (.int 5)) (aCons (eTup aNil) aNil))) (aCons (eTup (aCons (eK (.int 4)) (aCons (eTup aNil) aNil))) (aCons (eTup (aCons (eK (.int 2)) (aCons (eTup (aCons (eTup (aCons (eK (.int 0)) (aCons (eK (.int 1)) aNil))) aNil)) aNil))) (aCons (eTup (aCons (eK (.int 12)) (aCons (eTup aNil) aNil))) aNil)))))))))
abbrev tl3 : EL.Env → SO := (sExpr (eMeth appO 5 (aCons (eTup (aCons (eK (.int 4)) (aCons (eTup (aCons (eTup (aCons (eK (.int 2)) (aCons (eK (.int 3)) aNil))) (aCons (eTup (aCons (eK (.int 0)) (aCons (eK (.int 1)) aNil))) aNil))) aNil))) aNil)))
abbrev tl4 : EL.Env → SO := (sIf (tOrB (tBl (eBin neD (eFresh (eCompL (iSeq (eName 5)) [12] (gSet 12) tYesB (eNew (nCall m_is_web (aCons (eName 12) aNil))))) (eBin mulD (eLst (aCons (eK (.bl false)) aNil)) (eK (.int 7))))) (tBl (eBin isnD (eNew (nCall m_is_web (aCons (eTup (aCons (eK (.int 4)) (aCons (eTup (aCons (eTup (aCons (eK (.int 0)) (aCons (eK (.int 1)) aNil))) (aCons (eTup (aCons (eK (.int 2)) (aCons (eK (.int 3)) aNil))) aNil))) aNil))) aNil))) (eK (.bl true)))))
 (sRet (eK (.bl false)))
 SO.next)
abbrev tl5 : EL.Env → SO := (sPar3 13 14 15 (aCons (eBin ixD (eNew (nCall m__law_written aNil)) (eK (.int 0))) (aCons (eBin ixD (eNew (nCall m__law_written aNil)) (eK (.int 1))) (aCons (eBin ixD (eNew (nCall m__law_written aNil)) (eK (.int 3))) aNil))))
abbrev tl6 : EL.Env → SO := (sNew 5 (nFv (fLst (aCons (eNew (nCall m_is_of_threes (aCons (eName 13) aNil))) (aCons (eNew (nCall m_is_of_threes (aCons (eName 14) aNil))) (aCons (eNew (nCall m_is_of_threes (aCons (eName 15) aNil))) (aCons (eNew (nCall m_is_of_threes (aCons (eBin ixD (eNew (nCall m__law_written aNil)) (eK (.int 4))) aNil))) aNil)))))))
abbrev tl7 : EL.Env → SO := (sIf (tBl (eBin neD (eName 5) (eLst (aCons (eK (.bl true)) (aCons (eK (.bl true)) (aCons (eK (.bl false)) (aCons (eK (.bl false)) aNil)))))))
 (sRet (eK (.bl false)))
 SO.next)
abbrev tl8 : EL.Env → SO := (sSet 16 (eTup (aCons (eK (.int 8)) (aCons (eCallV tupleD (aCons (eFresh (eCompL (iSeq (eNew (nCall m__law_pairs (aCons (eK (.int 8)) aNil)))) [17] (gSet 17) (tBl (eBin inD (eBin subD (eBin ixD (eName 17) (eK (.int 1))) (eBin ixD (eName 17) (eK (.int 0)))) (eLst (aCons (eK (.int 1)) (aCons (eK (.int 4)) (aCons (eK (.int 7)) aNil)))))) (eName 17))) aNil)) aNil))))
abbrev tl9 : EL.Env → SO := (sIf (tOrB (tBl (eBin isnD (eNew (nCall m_is_of_threes (aCons (eName 16) aNil))) (eK (.bl true)))) (tTru (eNew (nCall m_is_web (aCons (eTup (aCons (eK (.int 8)) (aCons (eCallV tupleD (aCons (eNew (nCall m__law_pairs (aCons (eK (.int 8)) aNil))) aNil)) aNil))) aNil)))))
 (sRet (eK (.bl false)))
 SO.next)
abbrev tl10 : EL.Env → SO := (sRet (eAnd (eBin eqD (eNew (nCall m_tied (aCons (eName 14) (aCons (eK (.int 4)) aNil)))) (eLst (aCons (eK (.int 1)) (aCons (eK (.int 3)) (aCons (eK (.int 5)) aNil))))) (eBin eqD (eNew (nCall m_tied (aCons (eName 15) (aCons (eK (.int 0)) aNil)))) (eLst (aCons (eK (.int 1)) (aCons (eK (.int 2)) (aCons (eK (.int 3)) aNil)))))))
abbrev envT (s0 s1 s2 s3 s4 s5 s7 s9 s10 s11 s13 s14 s15 s16 : EL.Slot) : EL.Env := [s0, s1, s2, s3, s4, s5, .un, s7, .un, s9, s10, s11, .un, s13, s14, s15, s16, .un]
theorem many_web : Web 8 manyT := webB_iff.mp (by decide +kernel)
theorem in_147 (i : Int) : inD (.int i) (.lst [.int 1, .int 4, .int 7]) = some (.bl (decide (i = 1) || (decide (i = 4) || decide (i = 7)))) := by
  rw [inD_l (by simp) (by simp)]
  simp only [memd, List.any_cons, List.any_nil, eqd_int_int, Bool.or_false]
  congr 3 <;> simp [eq_comm]
theorem tail_ok (s0 s1 s2 s3 s4 s5 s7 s9 s10 s11 s13 s14 s15 s16 : EL.Slot) :
    ∃ ρ, sSeq tl1 (sSeq tl2 (sSeq tl3 (sSeq tl4 (sSeq tl5 (sSeq tl6 (sSeq tl7 (sSeq tl8 (sSeq tl9 tl10)))))))) (envT s0 s1 s2 s3 s4 s5 s7 s9 s10 s11 s13 s14 s15 s16) = .ret (.val (.bl true)) (s0 :: ρ) := by
  have wK : Web 4 (pairsI 4) := written_webs (4, pairsI 4) (by simp [writtenW])
  have wP : Web 6 prismT := written_webs (6, prismT) (by simp [writtenW])
  have wS : Web 4 [(0, 1), (0, 2), (0, 3)] := written_webs (4, [(0, 1), (0, 2), (0, 3)]) (by simp [writtenW])
  have w6 : Web 6 (pairsI 6) := written_webs (6, pairsI 6) (by simp [writtenW])
  obtain ⟨ρ1, h1, s4', e1⟩ := forL (ds := writtenW.map wD) (tg := gSet 4) (fb := (sIf (tBl (eBin isnD (eNew (nCall m_is_web (aCons (eName 4) aNil))) (eK (.bl true)))) (sRet (eK (.bl false))) SO.next)) (ρ := envT s0 s1 s2 s3 s4 s5 s7 s9 s10 s11 s13 s14 s15 s16)
    (fun _ ρ => ∃ s4', ρ = envT s0 s1 s2 s3 s4' s5 s7 s9 s10 s11 s13 s14 s15 s16) ⟨s4, rfl⟩ (fun pre d post ρ e hI => by
      obtain ⟨s4', rfl⟩ := hI
      have hd : d ∈ writtenW.map wD := by rw [e]; simp
      obtain ⟨w, hw, rfl⟩ := List.mem_map.mp hd
      have hh := written_webs w hw
      exact ⟨envT s0 s1 s2 s3 (.val (wD w)) s5 s7 s9 s10 s11 s13 s14 s15 s16, envT s0 s1 s2 s3 (.val (wD w)) s5 s7 s9 s10 s11 s13 s14 s15 s16, rfl, s_ifF (t_bl (v_bin (call1 rfl (is_web_at (web_okd hh) (webB_iff.mpr hh))) rfl rfl)), _, rfl⟩)
  subst e1
  rw [s_n (s_for (iSeq_lst (call0 written_eq)) h1)]
  have e2 : tl2 (envT s0 s1 s2 s3 s4' s5 s7 s9 s10 s11 s13 s14 s15 s16) = .next (envT s0 s1 s2 s3 s4' (.own false (.lst badW)) s7 s9 s10 s11 s13 s14 s15 s16) := s_newL rfl
  rw [s_n e2]
  have e3 : tl3 (envT s0 s1 s2 s3 s4' (.own false (.lst badW)) s7 s9 s10 s11 s13 s14 s15 s16) = .next (envT s0 s1 s2 s3 s4' (.own false (.lst (badW ++ [badX]))) s7 s9 s10 s11 s13 s14 s15 s16) :=
    s_expr (v_app (e := badX) (io := false) (xs := badW) rfl rfl rfl (by decide))
  rw [s_n e3]
  have e4 : tl4 (envT s0 s1 s2 s3 s4' (.own false (.lst (badW ++ [badX]))) s7 s9 s10 s11 s13 s14 s15 s16) = .next (envT s0 s1 s2 s3 s4' (.own false (.lst (badW ++ [badX]))) s7 s9 s10 s11 s13 s14 s15 s16) := by
    have c := eCompL_ownAll (xs := badW ++ [badX]) (mk := id) (k := 5) (io := false) (vs := [12]) (tg := gSet 12) (fe := eNew (nCall m_is_web (aCons (eName 12) aNil))) (ρ := envT s0 s1 s2 s3 s4' (.own false (.lst (badW ++ [badX]))) s7 s9 s10 s11 s13 s14 s15 s16) (ρ0 := envT s0 s1 s2 s3 s4' (.own false (.lst (badW ++ [badX]))) s7 s9 s10 s11 s13 s14 s15 s16) (fun _ => .bl false) (by decide) (by rw [List.map_id]; rfl) rfl rfl (by rw [List.map_id]; rfl) fun d hd => ⟨_, rfl, call1 rfl (is_web_at (bad_all d hd).2 (bad_all d hd).1), rfl⟩
    have hg : webB goodX = true ∧ okd 60 goodX = true := by decide +kernel
    refine s_ifF ((t_orF (t_bl (v_bin (v_fresh c) (v_bin (z := .lst (List.replicate 7 (.bl false))) (v_lst (ds := [.bl false]) rfl rfl) (e := .int 7) rfl rfl) ?_))).trans (t_bl (v_bin (d := .bl true) (call1 (d := goodX) rfl (is_web_at hg.2 hg.1)) rfl rfl)))
    exact neD_refl (by decide +kernel)
  rw [s_n e4]
  have e5 : tl5 (envT s0 s1 s2 s3 s4' (.own false (.lst (badW ++ [badX]))) s7 s9 s10 s11 s13 s14 s15 s16) = .next (envT s0 s1 s2 s3 s4' (.own false (.lst (badW ++ [badX]))) s7 s9 s10 s11 (.val (webD 4 (pairsI 4))) (.val (webD 6 prismT)) (.val (webD 4 [(0, 1), (0, 2), (0, 3)])) s16) :=
    s_par3 (a_cons (v_bin (call0 written_eq) rfl rfl) (a_cons (v_bin (call0 written_eq) rfl rfl) (a_cons (v_bin (call0 written_eq) rfl rfl) a_nil)))
  rw [s_n e5]
  have e6 : tl6 (envT s0 s1 s2 s3 s4' (.own false (.lst (badW ++ [badX]))) s7 s9 s10 s11 (.val (webD 4 (pairsI 4))) (.val (webD 6 prismT)) (.val (webD 4 [(0, 1), (0, 2), (0, 3)])) s16) = .next (envT s0 s1 s2 s3 s4' (.own false (.lst [.bl true, .bl true, .bl false, .bl false])) s7 s9 s10 s11 (.val (webD 4 (pairsI 4))) (.val (webD 6 prismT)) (.val (webD 4 [(0, 1), (0, 2), (0, 3)])) s16) :=
    s_newL' (ds := [.bl true, .bl true, .bl false, .bl false]) (f_lst (rs := [.val (.bl true), .val (.bl true), .val (.bl false), .val (.bl false)]) (a_cons (call1 rfl (is_threes_at (b := true) wK (by decide +kernel))) (a_cons (call1 rfl (is_threes_at (b := true) wP (by decide +kernel))) (a_cons (call1 rfl (is_threes_at (b := false) wS (by decide +kernel))) (a_cons (call1 (d := webD 6 (pairsI 6)) (v_bin (call0 written_eq) rfl rfl) (is_threes_at (b := false) w6 (by decide +kernel))) a_nil)))) rfl) rfl
  rw [s_n e6]
  have e7 : tl7 (envT s0 s1 s2 s3 s4' (.own false (.lst [.bl true, .bl true, .bl false, .bl false])) s7 s9 s10 s11 (.val (webD 4 (pairsI 4))) (.val (webD 6 prismT)) (.val (webD 4 [(0, 1), (0, 2), (0, 3)])) s16) = .next (envT s0 s1 s2 s3 s4' (.own false (.lst [.bl true, .bl true, .bl false, .bl false])) s7 s9 s10 s11 (.val (webD 4 (pairsI 4))) (.val (webD 6 prismT)) (.val (webD 4 [(0, 1), (0, 2), (0, 3)])) s16) :=
    s_ifF (t_bl (v_binS (v_own rfl) (v_lst (ds := [.bl true, .bl true, .bl false, .bl false]) rfl rfl) rfl rfl (neD_refl rfl)))
  rw [s_n e7]
  have e8 : tl8 (envT s0 s1 s2 s3 s4' (.own false (.lst [.bl true, .bl true, .bl false, .bl false])) s7 s9 s10 s11 (.val (webD 4 (pairsI 4))) (.val (webD 6 prismT)) (.val (webD 4 [(0, 1), (0, 2), (0, 3)])) s16) = .next (envT s0 s1 s2 s3 s4' (.own false (.lst [.bl true, .bl true, .bl false, .bl false])) s7 s9 s10 s11 (.val (webD 4 (pairsI 4))) (.val (webD 6 prismT)) (.val (webD 4 [(0, 1), (0, 2), (0, 3)])) (.val (webD 8 manyT))) := by
    have c := eCompL_val (xs := pairsI 8) (mk := tieD) (fi := iSeq (eNew (nCall m__law_pairs (aCons (eK (.int 8)) aNil)))) (vs := [17]) (tg := gSet 17) (ft := (tBl (eBin inD (eBin subD (eBin ixD (eName 17) (eK (.int 1))) (eBin ixD (eName 17) (eK (.int 0)))) (eLst (aCons (eK (.int 1)) (aCons (eK (.int 4)) (aCons (eK (.int 7)) aNil))))))) (fe := eName 17) (ρ := envT s0 s1 s2 s3 s4' (.own false (.lst [.bl true, .bl true, .bl false, .bl false])) s7 s9 s10 s11 (.val (webD 4 (pairsI 4))) (.val (webD 6 prismT)) (.val (webD 4 [(0, 1), (0, 2), (0, 3)])) s16) (ρ1 := envT s0 s1 s2 s3 s4' (.own false (.lst [.bl true, .bl true, .bl false, .bl false])) s7 s9 s10 s11 (.val (webD 4 (pairsI 4))) (.val (webD 6 prismT)) (.val (webD 4 [(0, 1), (0, 2), (0, 3)])) s16) (ρ0 := envT s0 s1 s2 s3 s4' (.own false (.lst [.bl true, .bl true, .bl false, .bl false])) s7 s9 s10 s11 (.val (webD 4 (pairsI 4))) (.val (webD 6 prismT)) (.val (webD 4 [(0, 1), (0, 2), (0, 3)])) s16)
      (fun t => decide (t.2 - t.1 = 1) || (decide (t.2 - t.1 = 4) || decide (t.2 - t.1 = 7))) tieD (by decide +kernel) (iSeq_lst (call1 rfl (pairs_eq 8 (by omega) (by omega)))) rfl fun t ht => ⟨_, rfl, by simp [in_147, storeL], fun _ => rfl, rfl⟩
    exact s_set (v_tup (a_cons rfl (a_cons (v_call1 (v_fresh c) rfl) a_nil)) rfl)
  rw [s_n e8]
  have e9 : tl9 (envT s0 s1 s2 s3 s4' (.own false (.lst [.bl true, .bl true, .bl false, .bl false])) s7 s9 s10 s11 (.val (webD 4 (pairsI 4))) (.val (webD 6 prismT)) (.val (webD 4 [(0, 1), (0, 2), (0, 3)])) (.val (webD 8 manyT))) = .next (envT s0 s1 s2 s3 s4' (.own false (.lst [.bl true, .bl true, .bl false, .bl false])) s7 s9 s10 s11 (.val (webD 4 (pairsI 4))) (.val (webD 6 prismT)) (.val (webD 4 [(0, 1), (0, 2), (0, 3)])) (.val (webD 8 manyT))) := by
    have k1 : webB (webD 8 (pairsI 8)) = false ∧ okd 60 (webD 8 (pairsI 8)) = true := by decide +kernel
    exact s_ifF ((t_orF (t_bl (v_bin (call1 rfl (is_threes_at (b := true) many_web (by decide +kernel))) rfl rfl))).trans (t_tru (call1 (v_tup (a_cons rfl (a_cons (v_call1 (call1 rfl (pairs_eq 8 (by omega) (by omega))) rfl) a_nil)) rfl) (is_web_at k1.2 k1.1)) rfl))
  rw [s_n e9]
  have q1 := tied_eq 6 prismT 4 (web_okd wP) (webB_iff.mpr wP) (by decide) (by omega)
  have q2 := tied_eq 4 [(0, 1), (0, 2), (0, 3)] 0 (web_okd wS) (webB_iff.mpr wS) (by decide) (by omega)
  rw [sI_web wP] at q1
  rw [sI_web wS] at q2
  refine ⟨_, s_ret ((v_andT (v_bin (call2 rfl rfl q1) (v_lst (ds := [.int 1, .int 3, .int 5]) rfl rfl) (z := .bl true) ?_) rfl).trans (v_bin (call2 rfl rfl q2) (v_lst (ds := [.int 1, .int 2, .int 3]) rfl rfl) ?_))⟩
  · have : (nearI prismT 4).map D.int = [.int 1, .int 3, .int 5] := by kernel_rfl
    rw [this]
    exact eqD_refl (by decide +kernel)
  · have : (nearI [(0, 1), (0, 2), (0, 3)] 0).map D.int = [.int 1, .int 2, .int 3] := by kernel_rfl
    rw [this]
    exact eqD_refl (by decide +kernel)
end HD

namespace HD
open PySem PySem.Spec PyProof.Rows L2 EL LamX
abbrev turnAll : EL.Env → SO := sSeq turnA (sSeq turnB (sSeq turnC (sSeq turnD (sSeq turnE (sSeq turnF (sSeq turnG (sSeq turnH turnI)))))))
abbrev cellA : EL.Env → SO := (sNew 2 (nCall m__law_drum (aCons (eName 1) (aCons (eK (.int 3)) aNil))))
abbrev cellB : EL.Env → SO := sFor (iRng rng1 (aCons (eK (.int 3)) aNil)) (gSet 3) turnAll
abbrev cellC : EL.Env → SO := (sIf (tNotB (tTru (eNew (nCall m__law_judged (aCons (eNew (nCall (m__law_odd 3) (aCons (eName 2) (aCons (eK (.int 2)) aNil)))) aNil)))))
 (sRet (eK (.bl false)))
 SO.next)
theorem law_code : b_law = sSeq (sFor (iSeq (eSl (eBin addD (eLst (aCons (eK (.int 0)) aNil)) (eName 0)) poNone (poSome (eK (.int 8))))) (gSet 1) (sSeq cellA (sSeq cellB cellC))) (sSeq tl1 (sSeq tl2 (sSeq tl3 (sSeq tl4 (sSeq tl5 (sSeq tl6 (sSeq tl7 (sSeq tl8 (sSeq tl9 tl10))))))))) := rfl
theorem cell_ok (s0 : EL.Slot) (c : Int) (s2 s3 s4 s5 s7 s9 s10 s11 s13 s14 s15 s16 : EL.Slot) :
    ∃ s1' s2' s3' s4' s5' s7' s9' s10' s11', sSeq cellA (sSeq cellB cellC) (envT s0 (.val (.int c)) s2 s3 s4 s5 s7 s9 s10 s11 s13 s14 s15 s16) = .next (envT s0 s1' s2' s3' s4' s5' s7' s9' s10' s11' s13 s14 s15 s16) := by
  obtain ⟨a, b, e1⟩ := drum_ok c 3 (by omega)
  have cA : cellA (envT s0 (.val (.int c)) s2 s3 s4 s5 s7 s9 s10 s11 s13 s14 s15 s16) = .next (envL s0 (.val (.int c)) a b s3 s4 s5 s7 s9 s10 s11 s13 s14 s15 s16) := s_newC (ncall2 rfl rfl e1)
  rw [s_n cA]
  have hr := rng1_eq (j := 3) (k := 3) rfl ⟨by omega, by omega⟩
  obtain ⟨ρ', h1, a', b', s3', s4', s5', s7', s9', s10', s11', rfl⟩ := forL (ds := (List.range 3).map fun (i : Nat) => D.int (0 + (i : Int))) (tg := gSet 3) (fb := turnAll) (ρ := envL s0 (.val (.int c)) a b s3 s4 s5 s7 s9 s10 s11 s13 s14 s15 s16)
    (fun _ ρ => ∃ a' b' s3' s4' s5' s7' s9' s10' s11', ρ = envL s0 (.val (.int c)) a' b' s3' s4' s5' s7' s9' s10' s11' s13 s14 s15 s16) ⟨a, b, s3, s4, s5, s7, s9, s10, s11, rfl⟩ (fun pre d post ρ e hI => by
      obtain ⟨a', b', s3', s4', s5', s7', s9', s10', s11', rfl⟩ := hI
      obtain ⟨n, ts, a2, b2, s5'', s7'', hw, e2⟩ := turn_ok1 s0 (.val (.int c)) a' b' (.val d) s4' s5' s7' s9' s10' s11' s13 s14 s15 s16 (sSeq turnH turnI)
      obtain ⟨a3, b3, v, s10'', e3⟩ := bent_loop s0 (.val (.int c)) a2 b2 (.val d) (webD n ts) s5'' s7'' s10' s11' s13 s14 s15 s16 (web_gd hw)
      obtain ⟨s11'', e4⟩ := odd_loop s0 (.val (.int c)) a3 b3 (.val d) hw s5'' s7'' (.val v) s10'' s11' s13 s14 s15 s16
      refine ⟨envL s0 (.val (.int c)) a' b' (.val d) s4' s5' s7' s9' s10' s11' s13 s14 s15 s16, envL s0 (.val (.int c)) a3 b3 (.val d) (.val (webD n ts)) s5'' s7'' (.val v) s10'' s11'' s13 s14 s15 s16, rfl, ?_, _, _, _, _, _, _, _, _, _, rfl⟩
      rw [turnAll, e2, s_n e3]
      exact e4)
  have cB : cellB (envL s0 (.val (.int c)) a b s3 s4 s5 s7 s9 s10 s11 s13 s14 s15 s16) = .next (envL s0 (.val (.int c)) a' b' s3' s4' s5' s7' s9' s10' s11' s13 s14 s15 s16) := s_for (iRng1_of (K := 3) rfl hr) h1
  rw [s_n cB]
  obtain ⟨v, a2, b2, e5, g5⟩ := odd_ok 3 2 a' b' (by omega)
  have ej := judged_at g5 (by omega)
  have e5 : m__law_odd 3 [drS a' b', .val (.int 2)] = .ok v [drS a2 b2, .val (.int 2)] := e5
  refine ⟨_, _, _, _, _, _, _, _, _, s_ifF (t_not (b := true) (t_tru (call1 (callo2 (io := false) (xs := [.int a', .int b']) rfl rfl e5) ej) rfl))⟩
theorem law_true (ns : List Int) (hl : ns.length ≤ 63) (_ : ∀ z ∈ ns, Builtin.Int.intBits z ≤ 1048576) : m_law [.val (.lst (ns.map .int))] = .ok (.bl true) [.val (.lst (ns.map .int))] := by
  unfold m_law
  rw [show ∀ fb, mOf 1 18 fb [.val (.lst (ns.map .int))] = frOf [.val (.lst (ns.map .int))] (fb (envT (.val (.lst (ns.map .int))) .un .un .un .un .un .un .un .un .un .un .un .un .un)) from fun fb => mOf_eq rfl]
  rw [law_code]
  have hs : iSeq (eSl (eBin addD (eLst (aCons (eK (.int 0)) aNil)) (eName 0)) poNone (poSome (eK (.int 8)))) (envT (.val (.lst (ns.map .int))) .un .un .un .un .un .un .un .un .un .un .un .un .un) = .ok (.of (((0 :: ns).take 8).map D.int)) (envT (.val (.lst (ns.map .int))) .un .un .un .un .un .un .un .un .un .un .un .un .un) := by
    refine iSeq_lst (v_slice (v_bin (v_lst (ds := [.int 0]) rfl rfl) (v_name rfl) (addD_ll (by simp; omega))) rfl rfl ?_)
    show some (D.lst (EL.cutD _ _ _)) = _
    rw [cut_lo _ (by omega)]
    simp
  obtain ⟨ρ', h1, s1, s2, s3, s4, s5, s7, s9, s10, s11, rfl⟩ := forL (ds := ((0 :: ns).take 8).map D.int) (tg := gSet 1) (fb := sSeq cellA (sSeq cellB cellC)) (ρ := envT (.val (.lst (ns.map .int))) .un .un .un .un .un .un .un .un .un .un .un .un .un)
    (fun _ ρ => ∃ s1 s2 s3 s4 s5 s7 s9 s10 s11, ρ = envT (.val (.lst (ns.map .int))) s1 s2 s3 s4 s5 s7 s9 s10 s11 .un .un .un .un) ⟨_, _, _, _, _, _, _, _, _, rfl⟩ (fun pre d post ρ e hI => by
      obtain ⟨s1, s2, s3, s4, s5, s7, s9, s10, s11, rfl⟩ := hI
      have hd : d ∈ ((0 :: ns).take 8).map D.int := by rw [e]; simp
      obtain ⟨c, _, rfl⟩ := List.mem_map.mp hd
      obtain ⟨s1', s2', s3', s4', s5', s7', s9', s10', s11', e2⟩ := cell_ok (.val (.lst (ns.map .int))) c s2 s3 s4 s5 s7 s9 s10 s11 .un .un .un .un
      exact ⟨_, _, rfl, e2, _, _, _, _, _, _, _, _, _, rfl⟩)
  rw [s_n (s_for hs h1)]
  obtain ⟨ρ, e3⟩ := tail_ok (.val (.lst (ns.map .int))) s1 s2 s3 s4 s5 s7 s9 s10 s11 .un .un .un .un
  rw [e3]
  simp
end HD

namespace HD
open PySem PySem.Spec PyProof.Rows L2 EL LamX
def dfn (i : Nat) (x : Str) : He.DefD := ⟨(x, none), x, x, defArgs (top i), defBody (top i), defScope (top i), [], []⟩
def fn : List He.DefD := [dfn 20 "is_whole", dfn 21 "fits_tie", dfn 22 "near", dfn 23 "fits_web", dfn 24 "fits_threes", dfn 25 "need_web", dfn 26 "need_place", dfn 27 "is_web", dfn 28 "is_of_threes", dfn 29 "tied", dfn 31 "_law_drum", dfn 32 "_law_roll", dfn 33 "_law_some", dfn 34 "_law_pairs", dfn 35 "_law_tie", dfn 36 "_law_near", dfn 37 "_law_written", dfn 38 "_law_threes", dfn 39 "_law_odd_web", dfn 40 "_law_web", dfn 41 "_law_odd", dfn 42 "_law_bent", dfn 43 "_law_names", dfn 44 "_law_error", dfn 45 "_law_is_web", dfn 46 "_law_judged", dfn 47 "law"]
def fa : List He.Fa := [.glo "is_whole", .glo "fits_tie", .glo "near", .glo "fits_web", .glo "fits_threes", .glo "need_web", .glo "need_place", .glo "is_web", .glo "is_of_threes", .glo "tied", .glo "_law_drum", .glo "_law_roll", .glo "_law_some", .glo "_law_pairs", .glo "_law_tie", .glo "_law_near", .glo "_law_written", .glo "_law_threes", .glo "_law_odd_web", .glo "_law_web", .glo "_law_odd", .glo "_law_bent", .glo "_law_names", .glo "_law_error", .glo "_law_is_web", .glo "_law_judged", .glo "law", .glo "RoundError", .glo "InvalidWeb", .glo "InvalidTie"] ++ [.glo "InvalidTies", .glo "InvalidRound", .glo "InvalidPlace", .glo "InvalidLane", .glo "InvalidTurn", .glo "InvalidHues", .glo "InvalidIndex", .glo "InvalidNumber", .glo "InvalidText", .glo "Unlike", .glo "NoRound", .glo "NoTurn", .glo "NothingToUndo", .glo "TooMany", .free "len", .free "sorted", .free "range", .free "isinstance", .free "int", .free "bool", .free "str", .free "tuple", .free "list", .free "set", .free "all", .free "any", .free "min", .free "max", .free "sum", .free "zip"] ++ [.free "enumerate", .free "ValueError", .int "MOST" 15, .exc "InvalidWeb", .exc "InvalidTie", .exc "InvalidTies", .exc "InvalidRound", .exc "InvalidPlace", .exc "InvalidLane", .exc "InvalidTurn", .exc "InvalidHues", .exc "InvalidIndex", .exc "InvalidNumber", .exc "InvalidText", .exc "Unlike", .exc "NoRound", .exc "NoTurn", .exc "NothingToUndo"]
abbrev tf : List He.Defn := [("_law_judged", none), ("law", none)]
abbrev R : PySem.W.OpenRow := PySem.W.OpenLaw.row PySem.Challenge.rw_secondround_k01_webs_known
def exB (K : PySem.W.Frag) : Bool := clsB K plainC allC "RoundError" && apartB K ["_law_judged", "law"]
abbrev hk : PySem.W.Hook := He.hookX 4 fa fn [] tf exB
def ob (s : PySem.W.SharedT) : He.AlX := He.obsX 4 fa fn [] tf exB (HandSHeadRun.getT s)
theorem ob_eq (s : PySem.W.SharedT) : ob s = hk.obs s.abs := He.obsX_eq (HandSHeadRun.getT_eq s)
def names : List Str := (["MOST", "RoundError", "InvalidWeb", "InvalidTie", "InvalidTies", "InvalidRound", "InvalidPlace", "InvalidLane", "InvalidTurn", "InvalidHues", "InvalidIndex", "InvalidNumber", "InvalidText", "Unlike", "NoRound", "NoTurn", "NothingToUndo", "TooMany", "is_whole", "fits_tie", "near", "fits_web", "fits_threes", "need_web", "need_place", "is_web", "is_of_threes", "tied", "_law_drum", "_law_roll"] : List Str) ++ (["_law_some", "_law_pairs", "_law_tie", "_law_near", "_law_written", "_law_threes", "_law_odd_web", "_law_web", "_law_odd", "_law_bent", "_law_names", "_law_error", "_law_is_web", "_law_judged"] : List Str)
theorem run (w : World) : HandSHeadRun.RunEq R (PySem.W.view R.prog [47]) hk ob 8000 names w := by
  intro os
  kernel_rfl
theorem fx_of {w : World} {K : PySem.W.Frag} {h : Heap} {mg : Str → Option Value} (X : K.In h) (G : h.Ns mainGlobals mg) (c : He.SaysX fa fn [] tf exB w h K) : Fx K mg where
  b_len := He.free_ok X G (c.t.d.fact 44 (f := .free "len") rfl)
  b_sorted := He.free_ok X G (c.t.d.fact 45 (f := .free "sorted") rfl)
  b_range := He.free_ok X G (c.t.d.fact 46 (f := .free "range") rfl)
  b_isinstance := He.free_ok X G (c.t.d.fact 47 (f := .free "isinstance") rfl)
  b_int := He.free_ok X G (c.t.d.fact 48 (f := .free "int") rfl)
  b_bool := He.free_ok X G (c.t.d.fact 49 (f := .free "bool") rfl)
  b_str := He.free_ok X G (c.t.d.fact 50 (f := .free "str") rfl)
  b_tuple := He.free_ok X G (c.t.d.fact 51 (f := .free "tuple") rfl)
  b_list := He.free_ok X G (c.t.d.fact 52 (f := .free "list") rfl)
  b_set := He.free_ok X G (c.t.d.fact 53 (f := .free "set") rfl)
  b_all := He.free_ok X G (c.t.d.fact 54 (f := .free "all") rfl)
  b_any := He.free_ok X G (c.t.d.fact 55 (f := .free "any") rfl)
  b_min := He.free_ok X G (c.t.d.fact 56 (f := .free "min") rfl)
  b_max := He.free_ok X G (c.t.d.fact 57 (f := .free "max") rfl)
  b_sum := He.free_ok X G (c.t.d.fact 58 (f := .free "sum") rfl)
  b_zip := He.free_ok X G (c.t.d.fact 59 (f := .free "zip") rfl)
  b_enumerate := He.free_ok X G (c.t.d.fact 60 (f := .free "enumerate") rfl)
  b_ValueError := He.free_ok X G (c.t.d.fact 61 (f := .free "ValueError") rfl)
  i_MOST := He.int_ok X G (c.t.d.fact 62 (f := .int "MOST" 15) rfl)
  m_is_whole := He.glo_ok X G (c.t.d.fact 0 (f := .glo "is_whole") rfl)
  d_is_whole := c.t.d.def_ 0 (d := dfn 20 "is_whole") rfl
  m_fits_tie := He.glo_ok X G (c.t.d.fact 1 (f := .glo "fits_tie") rfl)
  d_fits_tie := c.t.d.def_ 1 (d := dfn 21 "fits_tie") rfl
  m_near := He.glo_ok X G (c.t.d.fact 2 (f := .glo "near") rfl)
  d_near := c.t.d.def_ 2 (d := dfn 22 "near") rfl
  m_fits_web := He.glo_ok X G (c.t.d.fact 3 (f := .glo "fits_web") rfl)
  d_fits_web := c.t.d.def_ 3 (d := dfn 23 "fits_web") rfl
  m_fits_threes := He.glo_ok X G (c.t.d.fact 4 (f := .glo "fits_threes") rfl)
  d_fits_threes := c.t.d.def_ 4 (d := dfn 24 "fits_threes") rfl
  m_need_web := He.glo_ok X G (c.t.d.fact 5 (f := .glo "need_web") rfl)
  d_need_web := c.t.d.def_ 5 (d := dfn 25 "need_web") rfl
  m_need_place := He.glo_ok X G (c.t.d.fact 6 (f := .glo "need_place") rfl)
  d_need_place := c.t.d.def_ 6 (d := dfn 26 "need_place") rfl
  m_is_web := He.glo_ok X G (c.t.d.fact 7 (f := .glo "is_web") rfl)
  d_is_web := c.t.d.def_ 7 (d := dfn 27 "is_web") rfl
  m_is_of_threes := He.glo_ok X G (c.t.d.fact 8 (f := .glo "is_of_threes") rfl)
  d_is_of_threes := c.t.d.def_ 8 (d := dfn 28 "is_of_threes") rfl
  m_tied := He.glo_ok X G (c.t.d.fact 9 (f := .glo "tied") rfl)
  d_tied := c.t.d.def_ 9 (d := dfn 29 "tied") rfl
  m__law_drum := He.glo_ok X G (c.t.d.fact 10 (f := .glo "_law_drum") rfl)
  d__law_drum := c.t.d.def_ 10 (d := dfn 31 "_law_drum") rfl
  m__law_roll := He.glo_ok X G (c.t.d.fact 11 (f := .glo "_law_roll") rfl)
  d__law_roll := c.t.d.def_ 11 (d := dfn 32 "_law_roll") rfl
  m__law_some := He.glo_ok X G (c.t.d.fact 12 (f := .glo "_law_some") rfl)
  d__law_some := c.t.d.def_ 12 (d := dfn 33 "_law_some") rfl
  m__law_pairs := He.glo_ok X G (c.t.d.fact 13 (f := .glo "_law_pairs") rfl)
  d__law_pairs := c.t.d.def_ 13 (d := dfn 34 "_law_pairs") rfl
  m__law_tie := He.glo_ok X G (c.t.d.fact 14 (f := .glo "_law_tie") rfl)
  d__law_tie := c.t.d.def_ 14 (d := dfn 35 "_law_tie") rfl
  m__law_near := He.glo_ok X G (c.t.d.fact 15 (f := .glo "_law_near") rfl)
  d__law_near := c.t.d.def_ 15 (d := dfn 36 "_law_near") rfl
  m__law_written := He.glo_ok X G (c.t.d.fact 16 (f := .glo "_law_written") rfl)
  d__law_written := c.t.d.def_ 16 (d := dfn 37 "_law_written") rfl
  m__law_threes := He.glo_ok X G (c.t.d.fact 17 (f := .glo "_law_threes") rfl)
  d__law_threes := c.t.d.def_ 17 (d := dfn 38 "_law_threes") rfl
  m__law_odd_web := He.glo_ok X G (c.t.d.fact 18 (f := .glo "_law_odd_web") rfl)
  d__law_odd_web := c.t.d.def_ 18 (d := dfn 39 "_law_odd_web") rfl
  m__law_web := He.glo_ok X G (c.t.d.fact 19 (f := .glo "_law_web") rfl)
  d__law_web := c.t.d.def_ 19 (d := dfn 40 "_law_web") rfl
  m__law_odd := He.glo_ok X G (c.t.d.fact 20 (f := .glo "_law_odd") rfl)
  d__law_odd := c.t.d.def_ 20 (d := dfn 41 "_law_odd") rfl
  m__law_bent := He.glo_ok X G (c.t.d.fact 21 (f := .glo "_law_bent") rfl)
  d__law_bent := c.t.d.def_ 21 (d := dfn 42 "_law_bent") rfl
  m__law_names := He.glo_ok X G (c.t.d.fact 22 (f := .glo "_law_names") rfl)
  d__law_names := c.t.d.def_ 22 (d := dfn 43 "_law_names") rfl
  m__law_error := He.glo_ok X G (c.t.d.fact 23 (f := .glo "_law_error") rfl)
  d__law_error := c.t.d.def_ 23 (d := dfn 44 "_law_error") rfl
  m__law_is_web := He.glo_ok X G (c.t.d.fact 24 (f := .glo "_law_is_web") rfl)
  d__law_is_web := c.t.d.def_ 24 (d := dfn 45 "_law_is_web") rfl
  m__law_judged := He.glo_ok X G (c.t.d.fact 25 (f := .glo "_law_judged") rfl)
  d__law_judged := c.t.d.def_ 25 (d := dfn 46 "_law_judged") rfl
  m_law := He.glo_ok X G (c.t.d.fact 26 (f := .glo "law") rfl)
  d_law := c.t.d.def_ 26 (d := dfn 47 "law") rfl
  g_RoundError := He.glo_ok X G (c.t.d.fact 27 (f := .glo "RoundError") rfl)
  g_InvalidWeb := He.glo_ok X G (c.t.d.fact 28 (f := .glo "InvalidWeb") rfl)
  c_InvalidWeb := He.exc_ok (c.t.d.fact 63 (f := .exc "InvalidWeb") rfl)
  g_InvalidTie := He.glo_ok X G (c.t.d.fact 29 (f := .glo "InvalidTie") rfl)
  c_InvalidTie := He.exc_ok (c.t.d.fact 64 (f := .exc "InvalidTie") rfl)
  g_InvalidTies := He.glo_ok X G (c.t.d.fact 30 (f := .glo "InvalidTies") rfl)
  c_InvalidTies := He.exc_ok (c.t.d.fact 65 (f := .exc "InvalidTies") rfl)
  g_InvalidRound := He.glo_ok X G (c.t.d.fact 31 (f := .glo "InvalidRound") rfl)
  c_InvalidRound := He.exc_ok (c.t.d.fact 66 (f := .exc "InvalidRound") rfl)
  g_InvalidPlace := He.glo_ok X G (c.t.d.fact 32 (f := .glo "InvalidPlace") rfl)
  c_InvalidPlace := He.exc_ok (c.t.d.fact 67 (f := .exc "InvalidPlace") rfl)
  g_InvalidLane := He.glo_ok X G (c.t.d.fact 33 (f := .glo "InvalidLane") rfl)
  c_InvalidLane := He.exc_ok (c.t.d.fact 68 (f := .exc "InvalidLane") rfl)
  g_InvalidTurn := He.glo_ok X G (c.t.d.fact 34 (f := .glo "InvalidTurn") rfl)
  c_InvalidTurn := He.exc_ok (c.t.d.fact 69 (f := .exc "InvalidTurn") rfl)
  g_InvalidHues := He.glo_ok X G (c.t.d.fact 35 (f := .glo "InvalidHues") rfl)
  c_InvalidHues := He.exc_ok (c.t.d.fact 70 (f := .exc "InvalidHues") rfl)
  g_InvalidIndex := He.glo_ok X G (c.t.d.fact 36 (f := .glo "InvalidIndex") rfl)
  c_InvalidIndex := He.exc_ok (c.t.d.fact 71 (f := .exc "InvalidIndex") rfl)
  g_InvalidNumber := He.glo_ok X G (c.t.d.fact 37 (f := .glo "InvalidNumber") rfl)
  c_InvalidNumber := He.exc_ok (c.t.d.fact 72 (f := .exc "InvalidNumber") rfl)
  g_InvalidText := He.glo_ok X G (c.t.d.fact 38 (f := .glo "InvalidText") rfl)
  c_InvalidText := He.exc_ok (c.t.d.fact 73 (f := .exc "InvalidText") rfl)
  g_Unlike := He.glo_ok X G (c.t.d.fact 39 (f := .glo "Unlike") rfl)
  c_Unlike := He.exc_ok (c.t.d.fact 74 (f := .exc "Unlike") rfl)
  g_NoRound := He.glo_ok X G (c.t.d.fact 40 (f := .glo "NoRound") rfl)
  c_NoRound := He.exc_ok (c.t.d.fact 75 (f := .exc "NoRound") rfl)
  g_NoTurn := He.glo_ok X G (c.t.d.fact 41 (f := .glo "NoTurn") rfl)
  c_NoTurn := He.exc_ok (c.t.d.fact 76 (f := .exc "NoTurn") rfl)
  g_NothingToUndo := He.glo_ok X G (c.t.d.fact 42 (f := .glo "NothingToUndo") rfl)
  c_NothingToUndo := He.exc_ok (c.t.d.fact 77 (f := .exc "NothingToUndo") rfl)
  g_TooMany := He.glo_ok X G (c.t.d.fact 43 (f := .glo "TooMany") rfl)
theorem nx_of {w : World} {K : PySem.W.Frag} {h : Heap} (c : He.SaysX fa fn [] tf exB w h K) : Nx K := ⟨clsB_ok (He.ba c.more).1, (He.ba c.more).2⟩
theorem law_at {w : World} {K : PySem.W.Frag} {h : Heap} {mg : Str → Option Value} {f : Addr} (X : K.In h) (G : h.Ns mainGlobals mg) (hfa : mg ("law" : Str) = some (.ref f)) (c : He.SaysX fa fn [] tf exB w h K) : LawAtS PySem.Challenge.rw_secondround_k01_webs_known w K (L2N.CX (PySem.Challenge.rw_secondround_k01_webs_known).prog w) 22 63 "script" mg f h := by
  have A := fx_of X G c
  have B := nx_of c
  obtain ⟨fd, F⟩ := A.d_law
  have ef := hfa.symm.trans A.m_law
  cases ef
  have b := FunD.bindsA (ps := ["script"]) F fun _ _ _ _ _ _ us hl => match us, hl with | [_], _ => rfl
  refine ⟨fd, tf.map (He.cT K), spG K (cvK K) (tbK K) m_law, fun p hp => ?_, fun p hp => ?_, fun p hp => ?_, fun s v => b s [v] rfl, fun H a ns hl hb hT hS => ?_, fun base KX bs ht => ?_⟩
  · obtain ⟨q, hq, rfl⟩ := List.mem_map.mp hp
    exact c.empty q hq
  · obtain ⟨q, hq, rfl⟩ := List.mem_map.mp hp
    exact c.out q hq
  · obtain ⟨q, hq, rfl⟩ := List.mem_map.mp hp
    exact PySem.W.codeHd_of_K X (c.hd q hq)
  · refine law_promise (law_true ns hl hb) (fun p hp => ?_) hS
    have hp2 : ∃ q ∈ tf, p.1 = (He.cT K q).2 := by
      simp only [tbK, List.mem_cons, List.not_mem_nil, or_false] at hp
      rcases hp with rfl | rfl
      · exact ⟨("_law_judged", none), by decide, rfl⟩
      · exact ⟨("law", none), by decide, rfl⟩
    obtain ⟨q, hq, e⟩ := hp2
    rw [e]
    exact hT _ (List.mem_map.mpr ⟨q, hq, rfl⟩)
  · have Tb : Tx K mg base := {
      t__law_judged := ht (He.cT K ("_law_judged", none)) (List.mem_map.mpr ⟨_, by decide, rfl⟩),
      t_law := ht (He.cT K ("law", none)) (List.mem_map.mpr ⟨_, by decide, rfl⟩) }
    exact ok_law (P := (PySem.Challenge.rw_secondround_k01_webs_known).prog) (w := w) A B Tb F
end HD
open PySem PySem.W PySem.Calls PyProof.Rows
theorem PySem.Challenge.cw_secondround_k01_webs_known_holds : PySem.Challenge.rw_secondround_k01_webs_known.Holds := by
  w_on; o_law
  refine HandSHeadRun.head_any (r := OpenLaw.row PySem.Challenge.rw_secondround_k01_webs_known) (q := view (OpenLaw.row PySem.Challenge.rw_secondround_k01_webs_known).prog [47]) (H := HD.hk) (ob := HD.ob) (M := 8000) (loose := HD.names) (d := HandSHeadRun.topDef (OpenLaw.row PySem.Challenge.rw_secondround_k01_webs_known).prog 47) (kwd := []) HD.ob_eq
    (by kernel_rfl) (fun s => by kernel_rfl) HD.run (by kernel_rfl) (by kernel_rfl) (by kernel_rfl) (by rfl) (by first | assumption | decide +kernel) (by decide +kernel) ⟨rfl, rfl, rfl, rfl, rfl, by decide +kernel⟩ ?hw ?hc
  case hw => w_witness2
  case hc =>
    refine LamX.walk_ofTsE (l := PySem.Challenge.rw_secondround_k01_webs_known) (n := 63) (k := 22) (x := "script") (CX := fun w => L2N.CX (PySem.Challenge.rw_secondround_k01_webs_known).prog w) rfl (by decide) (by kernel_rfl) ⟨rfl, by decide, by decide⟩ ?F ?C
    case C =>
      intro w H s e s' z
      obtain ⟨_, _, _, _, _, _, _, _, _, _, _, _, z⟩ := z
      exact z
    intro w mg fa h Y G hmg0
    obtain ⟨K, KX, c⟩ := Y
    have hmg : mg ("law" : PySem.Str) = some (.ref fa) := by
      have e : (HandSHeadRun.topDef (OpenLaw.row PySem.Challenge.rw_secondround_k01_webs_known).prog 47).name = ("law" : PySem.Str) := by kernel_rfl
      rw [← e]
      exact hmg0
    exact ⟨K, KX, HD.law_at KX G hmg c⟩
