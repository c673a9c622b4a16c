import PyProof.Rows.All
import Wide.All
import OpenK.AllK
import Wide.FinOn
import HandS.ForMost
import HandS.ForExc
import HandS.ExcInit
import HandS.ExcValue
import HandS.ExcIs
import HandS.ExcField
import HandS.IsInst
import HandS.Defaults
import HandS.Wide
import HandS.Deep
import HandS.TupAny
import HandS.LawCells
import HandS.CallSlots
import KE.KExcIs
import KE.KStateDown
import HandS.Head0
import HandS.Head1
import HandS.Head2
import HandS.HeadEnd
import HandS.HeadHook1
import HandS.HeadHook2
import HandS.HeadWalk
import PySem.Challenge.RW_onceread_k06_error_classes
set_option Elab.async false
set_option linter.all false
set_option maxRecDepth 100000
set_option maxHeartbeats 2000000
/-! DP1: data behind the heap, slots that own or share, programs of data; expressions. -/
namespace DP
open PySem PySem.Spec L2
open PyProof.Rows hiding St

/-- plain data -/
inductive D where
  | non | bl (b : Bool) | int (i : Int) | str (x : Str)
  | tup (xs : List D) | lst (xs : List D) | scr (ns : List Int)
  | dic (ks : List (Key × D)) | dit (ks : List (List Key × D))
  | obj (c : Str) (fs : List (Str × D))
  | exn (c : Str) (fs : List (Str × D))
  deriving Inhabited

structure Sg where
  K : PySem.W.Frag
  T : Str → Option Addr

def sOk (x : Str) : Prop := x.length ≤ sizeLine ∧ PyData.strOk x = true

mutual
inductive Dat (S : Sg) (F : Hp) : V → D → Prop
  | non : Dat S F .non .non
  | bl (b : Bool) : Dat S F (.bl b) (.bl b)
  | int (i : Int) : Dat S F (.int i) (.int i)
  | str {x : Str} : sOk x → Dat S F (.str x) (.str x)
  | tup {a : Addr} {xs : List V} {ds : List D} : SqT S.K F a xs → ds.length ≤ sizeLine → Dats S F xs ds → Dat S F (.ref a) (.tup ds)
  | lst {a : Addr} {xs : List V} {ds : List D} : Rd F a (.lst xs) → ds.length ≤ sizeLine → Dats S F xs ds → Dat S F (.ref a) (.lst ds)
  | scr {a : Addr} {ns : List Int} : SqL S.K F a (ns.map V.int) → ns.length ≤ sizeLine → Dat S F (.ref a) (.scr ns)
  | dic {a : Addr} {kv : List (Key × V)} {kd : List (Key × D)} : Rd F a (.dK kv) → kv.map (·.1) = kd.map (·.1) → kd.length ≤ sizeLine → Dats S F (kv.map (·.2)) (kd.map (·.2)) → Dat S F (.ref a) (.dic kd)
  | dit {a : Addr} {kv : List (List Key × V)} {kd : List (List Key × D)} : Rd F a (.dT kv) → kv.map (·.1) = kd.map (·.1) → kd.length ≤ sizeLine → Dats S F (kv.map (·.2)) (kd.map (·.2)) → Dat S F (.ref a) (.dit kd)
  | obj {a C dx : Addr} {c : Str} {kv : List (Str × V)} {kd : List (Str × D)} : S.T c = some C → F a = some (.ins C dx kv) → kv.map (·.1) = kd.map (·.1) → Dats S F (kv.map (·.2)) (kd.map (·.2)) → Dat S F (.ref a) (.obj c kd)
  | exn0 {a C : Addr} {c : Str} : S.T c = some C → F a = some (exo a C none) → Dat S F (.ref a) (.exn c [])
  | exn1 {a C dx : Addr} {c f : Str} {v : V} {z : D} : S.T c = some C → F a = some (exo a C (some dx)) → F dx = some (exd dx [(f, v)]) → Dats S F [v] [z] → Dat S F (.ref a) (.exn c [(f, z)])
inductive Dats (S : Sg) (F : Hp) : List V → List D → Prop
  | nil : Dats S F [] []
  | cons {v : V} {vs : List V} {d : D} {ds : List D} : Dat S F v d → Dats S F vs ds → Dats S F (v :: vs) (d :: ds)
end

section
variable {S : Sg} {F F' F'' H H' : Hp} {K : PySem.W.Frag} {a : Addr} {v : V} {d : D}
theorem Same.rd {u : HO} (e : Same F F') (h : Rd F a u) : Rd F' a u := by
  rcases h with h | ⟨o, h⟩
  · exact .inl (e _ _ h)
  · exact .inr ⟨o, e _ _ h⟩
theorem Same.seqT {xs : List V} (e : Same F F') (h : SqT K F a xs) : SqT K F' a xs := by
  rcases h with h | h
  · exact .inl (Same.rd e h)
  · exact .inr h
mutual
theorem Dat.mono (e : Same F F') : ∀ {v : V} {d : D}, Dat S F v d → Dat S F' v d
  | _, _, .non => .non
  | _, _, .bl b => .bl b
  | _, _, .int i => .int i
  | _, _, .str h => .str h
  | _, _, .tup h l ds => .tup (Same.seqT e h) l (Dats.mono e ds)
  | _, _, .lst h l ds => .lst (Same.rd e h) l (Dats.mono e ds)
  | _, _, .scr h l => .scr (L2.Same.seq e h) l
  | _, _, .dic h n l ds => .dic (Same.rd e h) n l (Dats.mono e ds)
  | _, _, .dit h n l ds => .dit (Same.rd e h) n l (Dats.mono e ds)
  | _, _, .obj c h n ds => .obj c (e _ _ h) n (Dats.mono e ds)
  | _, _, .exn0 c h => .exn0 c (e _ _ h)
  | _, _, .exn1 c h h2 ds => .exn1 c (e _ _ h) (e _ _ h2) (Dats.mono e ds)
theorem Dats.mono (e : Same F F') : ∀ {vs : List V} {ds : List D}, Dats S F vs ds → Dats S F' vs ds
  | _, _, .nil => .nil
  | _, _, .cons h t => .cons (Dat.mono e h) (Dats.mono e t)
end
theorem Dats.length : ∀ {vs : List V} {ds : List D}, Dats S F vs ds → vs.length = ds.length
  | _, _, .nil => rfl
  | _, _, .cons _ t => congrArg (· + 1) (Dats.length t)
theorem Dats.get : ∀ {vs : List V} {ds : List D} {i : Nat} {d : D}, Dats S F vs ds → ds[i]? = some d → ∃ v, vs[i]? = some v ∧ Dat S F v d
  | _, _, _, _, .nil, h => by simp at h
  | _, _, 0, _, .cons h _, e => by simp at e; subst e; exact ⟨_, rfl, h⟩
  | _, _, i + 1, d, .cons _ t, e => by
    obtain ⟨v, h1, h2⟩ := Dats.get (i := i) (d := d) t (by simpa using e)
    exact ⟨v, by simpa using h1, h2⟩
theorem Dats.getV : ∀ {vs : List V} {ds : List D} {i : Nat} {v : V}, Dats S F vs ds → vs[i]? = some v → ∃ d, ds[i]? = some d ∧ Dat S F v d
  | _, _, _, _, .nil, h => by simp at h
  | _, _, 0, _, .cons h _, e => by simp at e; subst e; exact ⟨_, rfl, h⟩
  | _, _, i + 1, d, .cons _ t, e => by
    obtain ⟨v, h1, h2⟩ := Dats.getV (i := i) (v := d) t (by simpa using e)
    exact ⟨v, by simpa using h1, h2⟩
theorem Dats.append : ∀ {xs ys : List V} {ds es : List D}, Dats S F xs ds → Dats S F ys es → Dats S F (xs ++ ys) (ds ++ es)
  | _, _, _, _, .nil, s => s
  | _, _, _, _, .cons r t, s => .cons r (Dats.append t s)
theorem Dats.take : ∀ {xs : List V} {ds : List D} (n : Nat), Dats S F xs ds → Dats S F (xs.take n) (ds.take n)
  | _, _, 0, _ => .nil
  | _, _, _ + 1, .nil => .nil
  | _, _, n + 1, .cons r t => .cons r (Dats.take n t)
theorem Dats.drop : ∀ {xs : List V} {ds : List D} (n : Nat), Dats S F xs ds → Dats S F (xs.drop n) (ds.drop n)
  | _, _, 0, r => r
  | _, _, _ + 1, .nil => .nil
  | _, _, n + 1, .cons _ t => Dats.drop n t
theorem Dats.set {v : V} {d : D} (r : Dat S F v d) : ∀ {xs : List V} {ds : List D} (i : Nat), Dats S F xs ds → Dats S F (xs.set i v) (ds.set i d)
  | _, _, _, .nil => .nil
  | _, _, 0, .cons _ t => .cons r t
  | _, _, i + 1, .cons q t => .cons q (Dats.set r i t)
theorem Dats.one (h : Dat S F v d) : Dats S F [v] [d] := .cons h .nil
theorem Dats.ints : ∀ ns : List Int, Dats S F (ns.map V.int) (ns.map D.int)
  | [] => .nil
  | n :: r => .cons (.int n) (Dats.ints r)

/-- what an owned object at a holds; its members stand in F -/
def Own (S : Sg) (F H : Hp) (a : Addr) : D → Prop
  | .lst ds => ∃ xs, H a = some (.lst xs) ∧ Dats S F xs ds ∧ ds.length ≤ sizeLine
  | .dic kd => ∃ kv : List (Key × V), H a = some (.dK kv) ∧ kv.map (·.1) = kd.map (·.1) ∧ kd.length ≤ sizeLine ∧ Dats S F (kv.map (·.2)) (kd.map (·.2))
  | .dit kd => ∃ kv : List (List Key × V), H a = some (.dT kv) ∧ kv.map (·.1) = kd.map (·.1) ∧ kd.length ≤ sizeLine ∧ Dats S F (kv.map (·.2)) (kd.map (·.2))
  | .obj c kd => ∃ (C dx : Addr) (kv : List (Str × V)), H a = some (.ins C dx kv) ∧ S.T c = some C ∧ kv.map (·.1) = kd.map (·.1) ∧ Dats S F (kv.map (·.2)) (kd.map (·.2))
  | _ => False
theorem Own.mono (e : Same F F') (eh : ∀ o, H a = some o → H' a = some o) (h : Own S F H a d) : Own S F' H' a d := by
  cases d with
  | lst ds => obtain ⟨xs, h1, h2, h3⟩ := h; exact ⟨xs, eh _ h1, h2.mono e, h3⟩
  | dic kd => obtain ⟨kv, h1, h2, h3, h4⟩ := h; exact ⟨kv, eh _ h1, h2, h3, h4.mono e⟩
  | dit kd => obtain ⟨kv, h1, h2, h3, h4⟩ := h; exact ⟨kv, eh _ h1, h2, h3, h4.mono e⟩
  | obj c kd => obtain ⟨C, dx, kv, h1, h2, h3, h4⟩ := h; exact ⟨C, dx, kv, eh _ h1, h2, h3, h4.mono e⟩
  | _ => exact h.elim
theorem Own.there (h : Own S F H a d) : ∃ o, H a = some o := by
  cases d with
  | lst ds => obtain ⟨xs, h1, _⟩ := h; exact ⟨_, h1⟩
  | dic kd => obtain ⟨kv, h1, _⟩ := h; exact ⟨_, h1⟩
  | dit kd => obtain ⟨kv, h1, _⟩ := h; exact ⟨_, h1⟩
  | obj c kd => obtain ⟨C, dx, kv, h1, _⟩ := h; exact ⟨_, h1⟩
  | _ => exact h.elim
/-- a value that is read now: shared, or the root of an owned object -/
def DatR (S : Sg) (F H : Hp) (v : V) (d : D) : Prop := Dat S F v d ∨ ∃ a, v = .ref a ∧ Own S F H a d
theorem DatR.mono (e : Same F F') (eh : Same H H') (h : DatR S F H v d) : DatR S F' H' v d := by
  rcases h with h | ⟨a, e1, h⟩
  · exact .inl (h.mono e)
  · exact .inr ⟨a, e1, h.mono e fun o q => eh _ _ q⟩
end

/-! ### slots -/
inductive Sl where
  | no | fz (d : D) | ow (m : Bool) (d : D)
abbrev En := List Sl
/-- the frame of reference: what stood ahead of the def but what it may change; where its arguments that it may change stand -/
structure Bx where
  B : Hp
  ma : Nat → Addr

structure Rel (S : Sg) (c : Bx) (F H : Hp) (σ : St) (e : En) : Prop where
  bh : Same c.B H
  fh : Same F H
  len : σ.length = e.length
  fz : ∀ {i : Nat} {d : D}, e[i]? = some (.fz d) → ∃ v, σ[i]? = some (some v) ∧ Dat S F v d
  ow : ∀ {i : Nat} {m : Bool} {d : D}, e[i]? = some (.ow m d) → ∃ a, σ[i]? = some (some (.ref a)) ∧ F a = none ∧ c.B a = none ∧ Own S F H a d ∧ (m = true → a = c.ma i)
  dis : ∀ {i j : Nat} {m m' : Bool} {d d' : D} {a : Addr}, e[i]? = some (.ow m d) → e[j]? = some (.ow m' d') → σ[i]? = some (some (.ref a)) → σ[j]? = some (some (.ref a)) → i = j

/-- what is shared grows, by nothing of the ground -/
def Gr (c : Bx) (F F' : Hp) : Prop := Same F F' ∧ ∀ a, F a = none → F' a ≠ none → c.B a = none
theorem Gr.refl {c : Bx} {F : Hp} : Gr c F F := ⟨Same.refl _, fun _ h n => absurd h n⟩
theorem Gr.trans {c : Bx} {F F' F'' : Hp} (a : Gr c F F') (b : Gr c F' F'') : Gr c F F'' := ⟨a.1.trans b.1, fun x h n => by
  by_cases q : F' x = none
  · exact b.2 x q n
  · exact a.2 x h q⟩
/-- new objects alone -/
structure Ext (F H F' H' : Hp) : Prop where
  ff : Same F F'
  hh : Same H H'
  fh : Same F' H'
  nw : ∀ a, F a = none → F' a ≠ none → H a = none
theorem Ext.refl {F H : Hp} (h : Same F H) : Ext F H F H := ⟨Same.refl _, Same.refl _, h, fun _ h n => absurd h n⟩
theorem Ext.trans {F H F1 H1 F2 H2 : Hp} (a : Ext F H F1 H1) (b : Ext F1 H1 F2 H2) : Ext F H F2 H2 := ⟨a.ff.trans b.ff, a.hh.trans b.hh, b.fh, fun x h n => by
  by_cases q : F1 x = none
  · have z := b.nw x q n
    cases e : H x with
    | none => rfl
    | some o => rw [a.hh x o e] at z; cases z
  · exact a.nw x h q⟩
theorem same_new {H : Hp} {p : Addr} {o : HO} (h : H p = none) : Same H (upd H p o) := fun b x e => by
  rw [upd_ne (ne_of_none e h)]
  exact e
theorem Same.upd2 {F H : Hp} (h : Same F H) (p : Addr) (o : HO) : Same (upd F p o) (upd H p o) := fun b x e => by
  by_cases q : b = p
  · subst q; rw [upd_same] at e ⊢; exact e
  · rw [upd_ne q] at e ⊢; exact h _ _ e
/-- a new object, shared at once -/
theorem Ext.new {F H : Hp} (h : Same F H) {p : Addr} {o : HO} (hp : H p = none) : Ext F H (upd F p o) (upd H p o) :=
  ⟨same_new (Same.free h hp), same_new hp, Same.upd2 h p o, fun a h1 h2 => by
    by_cases q : a = p
    · rw [q]; exact hp
    · rw [upd_ne q] at h2; exact absurd h1 h2⟩
/-- a new object, not shared -/
theorem Ext.newO {F H : Hp} (h : Same F H) {p : Addr} {o : HO} (hp : H p = none) : Ext F H F (upd H p o) :=
  ⟨Same.refl _, same_new hp, h.trans (same_new hp), fun _ h n => absurd h n⟩
section
variable {S : Sg} {c : Bx} {F F' H H' : Hp} {σ : St} {e : En}
theorem Rel.ext (r : Rel S c F H σ e) (x : Ext F H F' H') : Rel S c F' H' σ e where
  bh := r.bh.trans x.hh
  fh := x.fh
  len := r.len
  fz := fun q => let ⟨v, h1, h2⟩ := r.fz q; ⟨v, h1, h2.mono x.ff⟩
  ow := fun q => by
    obtain ⟨a, h1, h2, h3, h4, h5⟩ := r.ow q
    refine ⟨a, h1, ?_, h3, h4.mono x.ff fun o z => x.hh _ _ z, h5⟩
    cases z : F' a with
    | none => rfl
    | some o =>
      obtain ⟨u, hu⟩ := h4.there
      have := x.nw a h2 (by rw [z]; exact fun w => nomatch w)
      rw [hu] at this
      cases this
  dis := r.dis
theorem Rel.gr (r : Rel S c F H σ e) (x : Ext F H F' H') : Gr c F F' := ⟨x.ff, fun a h n => by
  have z := x.nw a h n
  cases q : c.B a with
  | none => rfl
  | some o => rw [r.bh _ _ q] at z; cases z⟩
end

/-! ### programs of data -/
inductive R (α : Type) where
  | ok (a : α) (e : En)
  | ex (c : Str) (fs : List (Str × D)) (e : En)
  | bad
abbrev M (α : Type) := En → R α
@[reducible] def R.bind {α β : Type} (r : R α) (f : α → M β) : R β := match r with
  | .ok a e => f a e
  | .ex c fs e => .ex c fs e
  | .bad => .bad
def M.bind {α β : Type} (m : M α) (f : α → M β) : M β := fun e => (m e).bind f
def M.pure {α : Type} (a : α) : M α := fun e => .ok a e
instance : Monad M where
  pure := M.pure
  bind := M.bind
def lift {α : Type} (o : Option α) : M α := fun e => match o with
  | some a => .ok a e
  | none => .bad

/-- an exception behind the raise -/
def ExD (S : Sg) (F H : Hp) (cls : Value) (dd : Option Addr) (c : Str) (fs : List (Str × D)) : Prop :=
  ∃ C, S.T c = some C ∧ cls = .ref C ∧ ((fs = [] ∧ dd = none) ∨ ∃ (a : Addr) (f : Str) (v : V) (z : D), dd = some a ∧ fs = [(f, z)] ∧ H a = some (.xd [(f, v)]) ∧ Dats S F [v] [z])
/-- what is wanted of a result -/
def Okx {α : Type} (S : Sg) (c : Bx) (W : WX) (F : Hp) (r : R α) (k : α → En → Prop) : Prop := match r with
  | .ok a e => k a e
  | .ex n fs e => ∀ cls dd σ' F' H', Rel S c F' H' σ' e → Gr c F F' → ExD S F' H' cls dd n fs → W cls dd σ' H'
  | .bad => False
theorem Okx.bind {α β : Type} {S : Sg} {c : Bx} {W : WX} {F : Hp} {r : R α} {f : α → M β} {k : β → En → Prop} (h : Okx S c W F (r.bind f) k) : Okx S c W F r fun a e => Okx S c W F (f a e) k := by
  cases r with
  | ok a e => exact h
  | ex n fs e => exact h
  | bad => exact h
theorem Okx.imp {α : Type} {S : Sg} {c : Bx} {W : WX} {F : Hp} {r : R α} {k k' : α → En → Prop} (h : Okx S c W F r k) (i : ∀ a e, k a e → k' a e) : Okx S c W F r k' := by
  cases r with
  | ok a e => exact i _ _ h
  | ex n fs e => exact h
  | bad => exact h
theorem Okx.gr {α : Type} {S : Sg} {c : Bx} {W : WX} {F F' : Hp} {r : R α} {k k' : α → En → Prop} (h : Okx S c W F r k) (g : Gr c F F') (i : ∀ a e, k a e → k' a e) : Okx S c W F' r k' := by
  cases r with
  | ok a e => exact i _ _ h
  | ex n fs e => exact fun cls dd σ' F2 H' r g' => h cls dd σ' F2 H' r (g.trans g')
  | bad => exact h

/-- an operand: data, or a slot that owns -/
inductive Op where
  | va (d : D) | pl (i : Nat)
def OpD (S : Sg) (F : Hp) (σ : St) (v : V) : Op → Prop
  | .va d => Dat S F v d
  | .pl i => σ[i]? = some (some v)
theorem OpD.mono {S : Sg} {F F' : Hp} {σ : St} {v : V} {o : Op} (h : OpD S F σ v o) (e : Same F F') : OpD S F' σ v o := by
  cases o with
  | va d => exact Dat.mono e h
  | pl i => exact h
/-- what an operand holds now -/
def look (e : En) : Op → Option D
  | .va d => some d
  | .pl i => match e[i]? with
    | some (.ow _ d) => some d
    | some (.fz d) => some d
    | _ => none
def get (o : Op) : M D := fun e => match look e o with
  | some d => .ok d e
  | none => .bad
theorem look_ok {S : Sg} {c : Bx} {F H : Hp} {σ : St} {e : En} {v : V} {o : Op} {d : D} (r : Rel S c F H σ e) (h : OpD S F σ v o) (q : look e o = some d) : DatR S F H v d := by
  cases o with
  | va d' =>
    have q' : some d' = some d := q
    cases q'
    exact .inl h
  | pl i =>
    have h' : σ[i]? = some (some v) := h
    unfold look at q
    cases z : e[i]? with
    | none => simp only [z] at q; cases q
    | some s =>
      simp only [z] at q
      cases s with
      | no => cases q
      | fz d' =>
        cases q
        obtain ⟨w, h1, h2⟩ := r.fz z
        rw [h'] at h1
        cases h1
        exact .inl h2
      | ow m d' =>
        cases q
        obtain ⟨a, h1, h2, h3, h4, _⟩ := r.ow z
        rw [h'] at h1
        cases h1
        exact .inr ⟨a, rfl, h4⟩
end DP
set_option Elab.async false
set_option linter.all false
set_option maxRecDepth 100000
set_option maxHeartbeats 2000000
/-! DP2: judgements of expressions by programs of data. -/
namespace DP
open PySem PySem.Spec L2
open PyProof.Rows hiding St

def sgOf (K : PySem.W.Frag) (mg : Str → Option Value) : Sg := ⟨K, fun n => match mg n with
  | some (.ref C) => some C
  | _ => none⟩
abbrev Sx (X : Cx) : Sg := sgOf X.K X.mg

theorem PE.imp {X : Cx} {e : Expr} {t t' : TE} (h : PE X e t) (i : ∀ σ H Q, t' σ H Q → t σ H Q) : PE X e t' := ⟨fun pins s σ H Q I q => h.run pins s σ H Q I (i _ _ _ q)⟩
theorem PT.imp {X : Cx} {e : Expr} {t t' : TT} (h : PT X e t) (i : ∀ σ H Q, t' σ H Q → t σ H Q) : PT X e t' := ⟨fun pins s σ H Q I q => h.run pins s σ H Q I (i _ _ _ q)⟩
theorem PA.imp {X : Cx} {es : List Expr} {t t' : TA} (h : PA X es t) (i : ∀ σ H Q, t' σ H Q → t σ H Q) : PA X es t' := ⟨fun pos pins s σ H Q I q => h.run pos pins s σ H Q I (i _ _ _ q)⟩
theorem PSs.imp {X : Cx} {ss : List Stmt} {t t' : TS} (h : PSs X ss t) (i : ∀ G σ H, t' G σ H → t G σ H) : PSs X ss t' := ⟨fun pins s σ H G I q => h.run pins s σ H G I (i _ _ _ q)⟩
theorem PS.imp {X : Cx} {ss : Stmt} {t t' : TS} (h : PS X ss t) (i : ∀ G σ H, t' G σ H → t G σ H) : PS X ss t' := ⟨fun pins s σ H G I q => h.run pins s σ H G I (i _ _ _ q)⟩

section
variable (S : Sg) (c : Bx) (W : WX)
/-- an operand -/
def tO (m : M Op) : TE := fun σ H Q => ∃ F e, Rel S c F H σ e ∧ Okx S c W F (m e) fun o e' => ∀ v F' H', Rel S c F' H' σ e' → Gr c F F' → OpD S F' σ v o → Q v H'
/-- a value -/
def tX (m : M D) : TE := fun σ H Q => ∃ F e, Rel S c F H σ e ∧ Okx S c W F (m e) fun d e' => ∀ v F' H', Rel S c F' H' σ e' → Gr c F F' → Dat S F' v d → Q v H'
/-- a new object, not shared yet -/
def tN (m : M D) : TE := fun σ H Q => ∃ F e, Rel S c F H σ e ∧ Okx S c W F (m e) fun d e' => ∀ p F' H' H0, Rel S c F' H0 σ e' → Gr c F F' → H0 p = none → Same H0 H' → Same F' H' → Own S F' H' p d → Q (.ref p) H'
/-- arguments -/
def tAs (m : M (List Op)) : TA := fun σ H Q => ∃ F e, Rel S c F H σ e ∧ Okx S c W F (m e) fun os e' => ∀ vs F' H', Rel S c F' H' σ e' → Gr c F F' → Paired (fun v o => OpD S F' σ v o) vs os → Q vs H'
/-- a test -/
def tT (m : M Bool) : TT := fun σ H Q => ∃ F e, Rel S c F H σ e ∧ Okx S c W F (m e) fun b e' => ∀ F' H', Rel S c F' H' σ e' → Gr c F F' → Q b H'
end

structure PX (X : Cx) (e : Expr) (m : M D) : Prop where
  run : ∀ c W, Takes X W → PE X e (tX (Sx X) c W m)
structure PY (X : Cx) (e : Expr) (m : M Op) : Prop where
  run : ∀ c W, Takes X W → PE X e (tO (Sx X) c W m)
structure PN (X : Cx) (e : Expr) (m : M D) : Prop where
  run : ∀ c W, Takes X W → PE X e (tN (Sx X) c W m)
structure PAr (X : Cx) (es : List Expr) (m : M (List Op)) : Prop where
  run : ∀ c W, Takes X W → PA X es (tAs (Sx X) c W m)
structure PB (X : Cx) (e : Expr) (m : M Bool) : Prop where
  run : ∀ c W, Takes X W → PT X e (tT (Sx X) c W m)

/-! ### an operation of data -/
def rD (S : Sg) (f : D → D → Option D) : R2 := fun x y H Q => ∃ F a b d, Same F H ∧ DatR S F H x a ∧ DatR S F H y b ∧ f a b = some d ∧ ∀ v F' H', Ext F H F' H' → Dat S F' v d → Q v H'
def rDs (S : Sg) (f : List D → Option D) : List V → Hp → VK → Prop := fun xs H Q => ∃ F ds d, Same F H ∧ Paired (fun v a => DatR S F H v a) xs ds ∧ f ds = some d ∧ ∀ v F' H', Ext F H F' H' → Dat S F' v d → Q v H'
/-- .. whose answer is a new object -/
def rDN (S : Sg) (f : D → D → Option D) : R2 := fun x y H Q => ∃ F a b d, Same F H ∧ DatR S F H x a ∧ DatR S F H y b ∧ f a b = some d ∧ ∀ p H', H p = none → Same H H' → Own S F H' p d → Q (.ref p) H'
def rDsN (S : Sg) (f : List D → Option D) : List V → Hp → VK → Prop := fun xs H Q => ∃ F ds d, Same F H ∧ Paired (fun v a => DatR S F H v a) xs ds ∧ f ds = some d ∧ ∀ p H', H p = none → Same H H' → Own S F H' p d → Q (.ref p) H'
def orD (f g : D → D → Option D) : D → D → Option D := fun a b => match f a b with
  | some d => some d
  | none => g a b
def orDs (f g : List D → Option D) : List D → Option D := fun a => match f a with
  | some d => some d
  | none => g a
theorem OpR.orD {X : Cx} {op : Value → Value → Sem Value} {f g : D → D → Option D} (h : OpR X op (rD (Sx X) f)) (h' : OpR X op (rD (Sx X) g)) : OpR X op (rD (Sx X) (orD f g)) := by
  intro pins s σ H x y v u Q I rx ry ⟨F, a, b, d, fh, da, db, e, q⟩
  unfold DP.orD at e
  cases z : f a b with
  | some d' =>
    simp only [z] at e
    cases e
    exact h pins s σ H x y v u Q I rx ry ⟨F, a, b, d, fh, da, db, z, q⟩
  | none =>
    simp only [z] at e
    exact h' pins s σ H x y v u Q I rx ry ⟨F, a, b, d, fh, da, db, e, q⟩
theorem CallR.orDs {X : Cx} {op : Value} {f g : List D → Option D} (h : CallR X op (rDs (Sx X) f)) (h' : CallR X op (rDs (Sx X) g)) : CallR X op (rDs (Sx X) (orDs f g)) := by
  intro pins s σ H xs us Q I rx ⟨F, a, d, fh, da, e, q⟩
  unfold DP.orDs at e
  cases z : f a with
  | some d' =>
    simp only [z] at e
    cases e
    exact h pins s σ H xs us Q I rx ⟨F, a, d, fh, da, z, q⟩
  | none =>
    simp only [z] at e
    exact h' pins s σ H xs us Q I rx ⟨F, a, d, fh, da, e, q⟩
theorem OpR.imp {X : Cx} {op : Value → Value → Sem Value} {r r' : R2} (h : OpR X op r) (i : ∀ x y H Q, r' x y H Q → r x y H Q) : OpR X op r' := fun pins s σ H x y v u Q I rx ry q => h pins s σ H x y v u Q I rx ry (i _ _ _ _ q)
theorem CallR.imp {X : Cx} {f : Value} {r r' : List V → Hp → VK → Prop} (h : CallR X f r) (i : ∀ xs H Q, r' xs H Q → r xs H Q) : CallR X f r' := fun pins s σ H xs us Q I rx q => h pins s σ H xs us Q I rx (i _ _ _ q)
theorem IxR.imp {X : Cx} {r r' : R2} (h : IxR X r) (i : ∀ x y H Q, r' x y H Q → r x y H Q) : IxR X r' := fun value slice pins s σ H x y v u Q I rx ry q => h value slice pins s σ H x y v u Q I rx ry (i _ _ _ _ q)

/-! ### combinators -/
def eVar (i : Nat) : M D := fun e => match e[i]? with
  | some (.fz d) => .ok d e
  | _ => .bad
def oVar (i : Nat) : M Op := fun e => match e[i]? with
  | some (.fz d) => .ok (.va d) e
  | some (.ow _ _) => .ok (.pl i) e
  | _ => .bad
def oVa (m : M D) : M Op := fun e => (m e).bind fun d e => .ok (.va d) e
def eGet (m : M Op) : M D := fun e => (m e).bind fun o => get o
def eCst (d : D) : M D := fun e => .ok d e
def eOp (f : D → D → Option D) (ma mb : M Op) : M D := fun e => (ma e).bind fun x e => (mb e).bind fun y e => match look e x, look e y with
  | some a, some b => match f a b with
    | some d => .ok d e
    | none => .bad
  | _, _ => .bad
def looks (e : En) : List Op → Option (List D)
  | [] => some []
  | o :: os => match look e o, looks e os with
    | some d, some ds => some (d :: ds)
    | _, _ => none
def aNil : M (List Op) := fun e => .ok [] e
def aCons (m : M Op) (r : M (List Op)) : M (List Op) := fun e => (m e).bind fun o e => (r e).bind fun os e => .ok (o :: os) e
def eBi (f : List D → Option D) (m : M (List Op)) : M D := fun e => (m e).bind fun os e => match looks e os with
  | some ds => match f ds with
    | some d => .ok d e
    | none => .bad
  | none => .bad
def vas : List Op → Option (List D)
  | [] => some []
  | .va d :: os => match vas os with
    | some ds => some (d :: ds)
    | none => none
  | _ :: _ => none
def eTup (m : M (List Op)) : M D := fun e => (m e).bind fun os e => match vas os with
  | some ds => if ds.length ≤ sizeLine then .ok (.tup ds) e else .bad
  | none => .bad
def nLst (m : M (List Op)) : M D := fun e => (m e).bind fun os e => match vas os with
  | some ds => if ds.length ≤ sizeLine then .ok (.lst ds) e else .bad
  | none => .bad

section
variable {X : Cx} {a b : Expr} {pos : Pos}
theorem px_var (i : Nat) {x : Str} (hN : X.N[i]? = some x := by rfl) (hv : Vis X.env.scope x := by first | exact Or.inl rfl | exact Or.inr (Or.inl rfl) | exact Or.inr (Or.inr rfl)) (hd : (x == ("__debug__" : Str)) = false := by decide)
    (hcd : (x == ("__classdict__" : Str)) = false := by decide) : PX X (.Name x pos) (eVar i) := by
  refine ⟨fun c W tk => PE.imp (pe_var (i := i) hN hv hd hcd) fun σ H Q ⟨F, e, r, k⟩ => ?_⟩
  unfold eVar at k
  cases z : e[i]? with
  | none => simp only [z] at k; exact k.elim
  | some s =>
    simp only [z] at k
    cases s with
    | fz d =>
      obtain ⟨v, h1, h2⟩ := r.fz z
      exact ⟨v, h1, k v F H r Gr.refl h2⟩
    | _ => exact k.elim
theorem py_var (i : Nat) {x : Str} (hN : X.N[i]? = some x := by rfl) (hv : Vis X.env.scope x := by first | exact Or.inl rfl | exact Or.inr (Or.inl rfl) | exact Or.inr (Or.inr rfl)) (hd : (x == ("__debug__" : Str)) = false := by decide)
    (hcd : (x == ("__classdict__" : Str)) = false := by decide) : PY X (.Name x pos) (oVar i) := by
  refine ⟨fun c W tk => PE.imp (pe_var (i := i) hN hv hd hcd) fun σ H Q ⟨F, e, r, k⟩ => ?_⟩
  unfold oVar at k
  cases z : e[i]? with
  | none => simp only [z] at k; exact k.elim
  | some s =>
    simp only [z] at k
    cases s with
    | fz d =>
      obtain ⟨v, h1, h2⟩ := r.fz z
      exact ⟨v, h1, k v F H r Gr.refl h2⟩
    | ow m d =>
      obtain ⟨v, h1, h2⟩ := r.ow z
      exact ⟨_, h1, k _ F H r Gr.refl h1⟩
    | no => exact k.elim
/-- a value as an operand -/
theorem py_of {m : M D} (h : PX X a m) : PY X a (oVa m) := by
  refine ⟨fun c W tk => PE.imp (h.run c W tk) fun σ H Q ⟨F, e, r, k⟩ => ⟨F, e, r, ?_⟩⟩
  have k' := Okx.bind (r := m e) (f := fun d e => R.ok (Op.va d) e) k
  exact Okx.imp k' fun d e1 q => q
theorem px_cst {e : Expr} {v : V} {d : D} (he : PE X e (tC v)) (hd : ∀ F, Dat (Sx X) F v d) : PX X e (eCst d) := by
  refine ⟨fun c W tk => PE.imp he fun σ H Q ⟨F, e, r, k⟩ => ?_⟩
  exact k v F H r Gr.refl (hd F)
theorem px_int {i : Int} {j : Nat} : PX X (.Constant (.int i) j pos) (eCst (.int i)) := px_cst pe_int fun F => .int i
theorem px_bl {i : Bool} {j : Nat} : PX X (.Constant (.bool i) j pos) (eCst (.bl i)) := px_cst pe_bl fun F => .bl i
theorem px_non {j : Nat} : PX X (.Constant .none j pos) (eCst .non) := px_cst pe_non fun F => .non
theorem px_str {x : Str} {j : Nat} (h : sOk x := by exact ⟨by decide +kernel, by decide +kernel⟩) : PX X (.Constant (.str x) j pos) (eCst (.str x)) := px_cst pe_str fun F => .str h

/-- the heart of a two-place rule -/
theorem op_end {c : Bx} {W : WX} {S : Sg} {σ : L2.St} {F F0 H : Hp} {e : En} {x y : Op} {vx vy : V} {f : D → D → Option D} {k : D → En → Prop} (r : Rel S c F H σ e) (hx : OpD S F σ vx x) (hy : OpD S F σ vy y)
    (h : Okx S c W F0 (match look e x, look e y with
      | some a, some b => match f a b with
        | some d => R.ok d e
        | none => R.bad
      | _, _ => R.bad) k) : ∃ a b d, DatR S F H vx a ∧ DatR S F H vy b ∧ f a b = some d ∧ k d e := by
  cases z1 : look e x with
  | none => simp only [z1] at h; exact h.elim
  | some a =>
    cases z2 : look e y with
    | none => simp only [z1, z2] at h; exact h.elim
    | some b =>
      simp only [z1, z2] at h
      cases z3 : f a b with
      | none => simp only [z3] at h; exact h.elim
      | some d =>
        simp only [z3] at h
        exact ⟨a, b, d, look_ok r hx z1, look_ok r hy z2, z3, h⟩
theorem op_tO {f : D → D → Option D} {ma mb : M Op} {r : R2} {c : Bx} {W : WX} {S : Sg} {σ : L2.St} {H : Hp} {Q : VK} (hr : ∀ x y H Q, rD S f x y H Q → r x y H Q) (h : tX S c W (eOp f ma mb) σ H Q) : tOp r (tO S c W ma) (tO S c W mb) σ H Q := by
  obtain ⟨F, e, r0, k⟩ := h
  refine ⟨F, e, r0, Okx.imp (Okx.bind k) fun x e1 k1 v F1 H1 r1 g1 o1 => ⟨F1, e1, r1, Okx.gr (Okx.bind k1) g1 fun y e2 k2 w F2 H2 r2 g2 o2 => ?_⟩⟩
  obtain ⟨a, b, d, da, db, e3, q⟩ := op_end r2 (o1.mono g2.1) o2 k2
  exact hr _ _ _ _ ⟨F2, a, b, d, r2.fh, da, db, e3, fun v F' H' x dv => q v F' H' (r2.ext x) ((g1.trans g2).trans (r2.gr x)) dv⟩
theorem op_tON {f : D → D → Option D} {ma mb : M Op} {r : R2} {c : Bx} {W : WX} {S : Sg} {σ : L2.St} {H : Hp} {Q : VK} (hr : ∀ x y H Q, rDN S f x y H Q → r x y H Q) (h : tN S c W (eOp f ma mb) σ H Q) : tOp r (tO S c W ma) (tO S c W mb) σ H Q := by
  obtain ⟨F, e, r0, k⟩ := h
  refine ⟨F, e, r0, Okx.imp (Okx.bind k) fun x e1 k1 v F1 H1 r1 g1 o1 => ⟨F1, e1, r1, Okx.gr (Okx.bind k1) g1 fun y e2 k2 w F2 H2 r2 g2 o2 => ?_⟩⟩
  obtain ⟨a, b, d, da, db, e3, q⟩ := op_end r2 (o1.mono g2.1) o2 k2
  exact hr _ _ _ _ ⟨F2, a, b, d, r2.fh, da, db, e3, fun p H' hp hh ow => q p F2 H' H2 r2 (g1.trans g2) hp hh (r2.fh.trans hh) ow⟩
theorem px_op {op : Operator} {f : D → D → Option D} {ma mb : M Op} (ho : OpR X (binaryOp op) (rD (Sx X) f)) (ha : PY X a ma) (hb : PY X b mb) : PX X (.BinOp a op b pos) (eOp f ma mb) :=
  ⟨fun c W tk => PE.imp (pe_op ho (ha.run c W tk) (hb.run c W tk)) fun _ _ _ h => op_tO (fun _ _ _ _ z => z) h⟩
theorem pn_op {op : Operator} {f : D → D → Option D} {ma mb : M Op} (ho : OpR X (binaryOp op) (rDN (Sx X) f)) (ha : PY X a ma) (hb : PY X b mb) : PN X (.BinOp a op b pos) (eOp f ma mb) :=
  ⟨fun c W tk => PE.imp (pe_op ho (ha.run c W tk) (hb.run c W tk)) fun _ _ _ h => op_tON (fun _ _ _ _ z => z) h⟩
theorem px_cmp {op : CmpOp} {f : D → D → Option D} {ma mb : M Op} (ho : OpR X (compareOp op) (rD (Sx X) f)) (ha : PY X a ma) (hb : PY X b mb) (hm : behindInMarks op b = false) : PX X (.Compare a [op] [b] pos) (eOp f ma mb) :=
  ⟨fun c W tk => PE.imp (pe_cmpR ho (ha.run c W tk) (hb.run c W tk) hm) fun _ _ _ h => op_tO (fun _ _ _ _ z => z) h⟩
theorem px_ix {f : D → D → Option D} {ma mb : M Op} (ho : IxR X (rD (Sx X) f)) (ha : PY X a ma) (hb : PY X b mb) (hs : PlainIx b := by exact fun _ _ => rfl) : PX X (.Subscript a b pos) (eOp f ma mb) :=
  ⟨fun c W tk => PE.imp (pe_ix ho (ha.run c W tk) (hb.run c W tk) hs) fun _ _ _ h => op_tO (fun _ _ _ _ z => z) h⟩

/-! arguments -/
theorem pr_nil : PAr X [] aNil := ⟨fun c W tk => PA.imp pa_nil fun σ H Q ⟨F, e, r, k⟩ => k [] F H r Gr.refl .nil⟩
theorem paired_mono {S : Sg} {F F' : Hp} {σ : L2.St} (g : Same F F') : ∀ {vs : List V} {os : List Op}, Paired (fun v o => OpD S F σ v o) vs os → Paired (fun v o => OpD S F' σ v o) vs os
  | _, _, .nil => .nil
  | _, _, .cons h t => .cons (h.mono g) (paired_mono g t)
theorem pr_cons {e : Expr} {es : List Expr} {m : M Op} {r : M (List Op)} (he : PY X e m) (hr : PAr X es r) (hs : starEach (e :: es) X.env = (false, eval e X.env) :: starEach es X.env := by rfl) : PAr X (e :: es) (aCons m r) := by
  refine ⟨fun c W tk => PA.imp (pa_cons (he.run c W tk) (hr.run c W tk) hs) fun σ H Q ⟨F, e, r0, k⟩ => ?_⟩
  refine ⟨F, e, r0, Okx.imp (Okx.bind k) fun x e1 k1 v F1 H1 r1 g1 o1 => ⟨F1, e1, r1, Okx.gr (Okx.bind k1) g1 fun y e2 k2 w F2 H2 r2 g2 o2 => ?_⟩⟩
  exact k2 (v :: w) F2 H2 r2 (g1.trans g2) (.cons (o1.mono g2.1) o2)
theorem looks_ok {S : Sg} {c : Bx} {F H : Hp} {σ : L2.St} {e : En} (r : Rel S c F H σ e) : ∀ {vs : List V} {os : List Op} {ds : List D}, Paired (fun v o => OpD S F σ v o) vs os → looks e os = some ds → Paired (fun v d => DatR S F H v d) vs ds
  | _, _, ds, .nil, q => by
    have q' : some [] = some ds := q
    cases q'
    exact .nil
  | _, o :: os, ds, .cons h t, q => by
    unfold looks at q
    cases z1 : look e o with
    | none => simp only [z1] at q; cases q
    | some d =>
      cases z2 : looks e os with
      | none => simp only [z1, z2] at q; cases q
      | some ds' =>
        simp only [z1, z2] at q
        cases q
        exact .cons (look_ok r h z1) (looks_ok r t z2)
theorem bi_end {c : Bx} {W : WX} {S : Sg} {σ : L2.St} {F F0 H : Hp} {e : En} {os : List Op} {vs : List V} {f : List D → Option D} {k : D → En → Prop} (r : Rel S c F H σ e) (hx : Paired (fun v o => OpD S F σ v o) vs os)
    (h : Okx S c W F0 (match looks e os with
      | some ds => match f ds with
        | some d => R.ok d e
        | none => R.bad
      | none => R.bad) k) : ∃ ds d, Paired (fun v d => DatR S F H v d) vs ds ∧ f ds = some d ∧ k d e := by
  cases z1 : looks e os with
  | none => simp only [z1] at h; exact h.elim
  | some ds =>
    simp only [z1] at h
    cases z3 : f ds with
    | none => simp only [z3] at h; exact h.elim
    | some d =>
      simp only [z3] at h
      exact ⟨ds, d, looks_ok r hx z1, z3, h⟩
theorem bi_tA {f : List D → Option D} {m : M (List Op)} {c : Bx} {W : WX} {S : Sg} {σ : L2.St} {H : Hp} {Q : VK} (h : tX S c W (eBi f m) σ H Q) : tCB (rDs S f) (tAs S c W m) σ H Q := by
  obtain ⟨F, e, r0, k⟩ := h
  refine ⟨F, e, r0, Okx.imp (Okx.bind k) fun x e1 k1 v F1 H1 r1 g1 o1 => ?_⟩
  obtain ⟨ds, d, da, e3, q⟩ := bi_end r1 o1 k1
  exact ⟨F1, ds, d, r1.fh, da, e3, fun v F' H' x dv => q v F' H' (r1.ext x) (g1.trans (r1.gr x)) dv⟩
theorem bi_tAN {f : List D → Option D} {m : M (List Op)} {c : Bx} {W : WX} {S : Sg} {σ : L2.St} {H : Hp} {Q : VK} (h : tN S c W (eBi f m) σ H Q) : tCB (rDsN S f) (tAs S c W m) σ H Q := by
  obtain ⟨F, e, r0, k⟩ := h
  refine ⟨F, e, r0, Okx.imp (Okx.bind k) fun x e1 k1 v F1 H1 r1 g1 o1 => ?_⟩
  obtain ⟨ds, d, da, e3, q⟩ := bi_end r1 o1 k1
  exact ⟨F1, ds, d, r1.fh, da, e3, fun p H' hp hh ow => q p F1 H' H1 r1 g1 hp hh (r1.fh.trans hh) ow⟩
variable {es : List Expr} {e : Expr} {x : Str} {p : Pos}
theorem px_bi {id : String} {f : List D → Option D} {m : M (List Op)} (hc : CallR X (.builtin id) (rDs (Sx X) f)) (hg : Gl X x) (hm : X.mg x = none) (hv : bootBuiltins x = some (.builtin id)) (ha : PAr X (e :: es) m) (hn : x ≠ "__name__" := by decide)
    (hdb : (x == ("__debug__" : Str)) = false := by decide)
    (he : starEach (e :: es) X.env = (false, eval e X.env) :: starEach es X.env := by rfl) (hpl : (backTo pos (starEach es X.env)).any (·.1) = false := by rfl) : PX X (.Call (.Name x p) (e :: es) [] pos) (eBi f m) :=
  ⟨fun c W tk => PE.imp (pe_callB hc hg hm hv (ha.run c W tk) hn hdb he hpl) fun _ _ _ h => bi_tA h⟩
theorem pn_bi {id : String} {f : List D → Option D} {m : M (List Op)} (hc : CallR X (.builtin id) (rDsN (Sx X) f)) (hg : Gl X x) (hm : X.mg x = none) (hv : bootBuiltins x = some (.builtin id)) (ha : PAr X (e :: es) m) (hn : x ≠ "__name__" := by decide)
    (hdb : (x == ("__debug__" : Str)) = false := by decide)
    (he : starEach (e :: es) X.env = (false, eval e X.env) :: starEach es X.env := by rfl) (hpl : (backTo pos (starEach es X.env)).any (·.1) = false := by rfl) : PN X (.Call (.Name x p) (e :: es) [] pos) (eBi f m) :=
  ⟨fun c W tk => PE.imp (pe_callB hc hg hm hv (ha.run c W tk) hn hdb he hpl) fun _ _ _ h => bi_tAN h⟩
theorem px_ty {id : String} {f : List D → Option D} {m : M (List Op)} (hc : CallR X (.type id) (rDs (Sx X) f)) (hg : Gl X x) (hm : X.mg x = none) (hv : bootBuiltins x = some (.type id)) (ha : PAr X (e :: es) m) (hn : x ≠ "__name__" := by decide)
    (hdb : (x == ("__debug__" : Str)) = false := by decide)
    (he : starEach (e :: es) X.env = (false, eval e X.env) :: starEach es X.env := by rfl) (hpl : (backTo pos (starEach es X.env)).any (·.1) = false := by rfl) : PX X (.Call (.Name x p) (e :: es) [] pos) (eBi f m) :=
  ⟨fun c W tk => PE.imp (pe_callTy hc hg hm hv (ha.run c W tk) hn hdb he hpl) fun _ _ _ h => bi_tA h⟩
theorem pn_ty {id : String} {f : List D → Option D} {m : M (List Op)} (hc : CallR X (.type id) (rDsN (Sx X) f)) (hg : Gl X x) (hm : X.mg x = none) (hv : bootBuiltins x = some (.type id)) (ha : PAr X (e :: es) m) (hn : x ≠ "__name__" := by decide)
    (hdb : (x == ("__debug__" : Str)) = false := by decide)
    (he : starEach (e :: es) X.env = (false, eval e X.env) :: starEach es X.env := by rfl) (hpl : (backTo pos (starEach es X.env)).any (·.1) = false := by rfl) : PN X (.Call (.Name x p) (e :: es) [] pos) (eBi f m) :=
  ⟨fun c W tk => PE.imp (pe_callTy hc hg hm hv (ha.run c W tk) hn hdb he hpl) fun _ _ _ h => bi_tAN h⟩
theorem vas_ok {S : Sg} {F : Hp} {σ : L2.St} : ∀ {vs : List V} {os : List Op} {ds : List D}, Paired (fun v o => OpD S F σ v o) vs os → vas os = some ds → Dats S F vs ds
  | _, _, ds, .nil, q => by
    have q' : some [] = some ds := q
    cases q'
    exact .nil
  | _, .va d :: os, ds, .cons h t, q => by
    unfold vas at q
    cases z : vas os with
    | none => simp only [z] at q; cases q
    | some ds' =>
      simp only [z] at q
      cases q
      exact .cons h (vas_ok t z)
  | _, .pl i :: os, ds, .cons h t, q => by
    unfold vas at q
    cases q
theorem px_tup {m : M (List Op)} {x1} (h : PAr X es m) : PX X (.Tuple es x1 pos) (eTup m) := by
  refine ⟨fun c W tk => PE.imp (pe_tup (h.run c W tk)) fun σ H Q ⟨F, e, r0, k⟩ => ?_⟩
  refine ⟨F, e, r0, Okx.imp (Okx.bind k) fun os e1 k1 vs F1 H1 r1 g1 o1 => ?_⟩
  cases z : vas os with
  | none => simp only [z] at k1; exact k1.elim
  | some ds =>
    simp only [z] at k1
    by_cases hl : ds.length ≤ sizeLine
    · rw [if_pos hl] at k1
      have dd := vas_ok o1 z
      refine ⟨by rw [dd.length]; exact hl, fun p hp => ?_⟩
      have x : Ext F1 H1 (upd F1 p (.tup vs)) (upd H1 p (.tup vs)) := Ext.new r1.fh hp
      exact k1 _ _ _ (r1.ext x) (g1.trans (r1.gr x)) (.tup (SqT.of upd_same) hl (dd.mono x.ff))
    · rw [if_neg hl] at k1
      exact k1.elim
theorem pn_lst {m : M (List Op)} (h : PAr X es m) : PN X (.List es pos) (nLst m) := by
  refine ⟨fun c W tk => PE.imp (pe_lst (h.run c W tk)) fun σ H Q ⟨F, e, r0, k⟩ => ?_⟩
  refine ⟨F, e, r0, Okx.imp (Okx.bind k) fun os e1 k1 vs F1 H1 r1 g1 o1 => ?_⟩
  cases z : vas os with
  | none => simp only [z] at k1; exact k1.elim
  | some ds =>
    simp only [z] at k1
    by_cases hl : ds.length ≤ sizeLine
    · rw [if_pos hl] at k1
      have dd := vas_ok o1 z
      refine ⟨by rw [dd.length]; exact hl, fun p hp => ?_⟩
      exact k1 p F1 _ H1 r1 g1 hp (same_new hp) (r1.fh.trans (same_new hp)) ⟨vs, upd_same, dd, hl⟩
    · rw [if_neg hl] at k1
      exact k1.elim
end
end DP
set_option Elab.async false
set_option linter.all false
set_option maxRecDepth 100000
set_option maxHeartbeats 2000000
/-! DP3: tests, statements, loops. -/
namespace DP
open PySem PySem.Spec L2
open PyProof.Rows hiding St

/-! ### tests -/
def bE (m : M D) : M Bool := fun e => (m e).bind fun d e => match d with
  | .bl b => .ok b e
  | _ => .bad
def bNot (m : M Bool) : M Bool := fun e => (m e).bind fun b e => .ok (!b) e
def bAnd (m n : M Bool) : M Bool := fun e => (m e).bind fun b e => if b = true then n e else .ok false e
def bOr (m n : M Bool) : M Bool := fun e => (m e).bind fun b e => if b = true then .ok true e else n e
def eB (m : M Bool) : M D := fun e => (m e).bind fun b e => .ok (.bl b) e
def eIf (t : M Bool) (m n : M D) : M D := fun e => (t e).bind fun b e => if b = true then m e else n e
section
variable {X : Cx} {a b : Expr} {pos : Pos}
theorem tT_of {S : Sg} {c : Bx} {W : WX} {σ : L2.St} {H : Hp} {Q : Bool → Hp → Prop} {m : M D} (h : tT S c W (bE m) σ H Q) : tX S c W m σ H fun x H' => ∃ k, x = .bl k ∧ Q k H' := by
  obtain ⟨F, e, r, k⟩ := h
  refine ⟨F, e, r, Okx.imp (Okx.bind k) fun d e1 k1 v F1 H1 r1 g1 dv => ?_⟩
  cases dv with
  | bl b => exact ⟨b, rfl, k1 F1 H1 r1 g1⟩
  | _ => exact k1.elim
/-- a value as a test -/
theorem pb_val {m : M D} (h : PX X a m) (he : ∀ whole, isTrue a X.env whole = (do let v ← whole; standAt a.pos; holding [v] (truthy v)) := by intro _; rfl) : PB X a (bE m) :=
  ⟨fun c W tk => PT.imp (pt_val (h.run c W tk) he) fun _ _ _ h => tT_of h⟩
/-- a comparison as a test -/
theorem pb_cmp {op : CmpOp} {f : D → D → Option D} {ma mb : M Op} (ho : OpR X (compareOp op) (rD (Sx X) f)) (ha : PY X a ma) (hb : PY X b mb) (hm : behindInMarks op b = false) : PB X (.Compare a [op] [b] pos) (bE (eOp f ma mb)) := by
  refine ⟨fun c W tk => PT.imp (pt_cmpR ho (ha.run c W tk) (hb.run c W tk) hm) fun σ H Q h => ?_⟩
  exact op_tO (fun _ _ _ _ z => z) (tT_of h)
theorem pb_not {m : M Bool} (h : PB X a m) : PB X (.UnaryOp .Not a pos) (bNot m) := by
  refine ⟨fun c W tk => PT.imp (pt_not (h.run c W tk)) fun σ H Q ⟨F, e, r, k⟩ => ⟨F, e, r, ?_⟩⟩
  exact Okx.imp (Okx.bind k) fun b e1 k1 F1 H1 r1 g1 => k1 F1 H1 r1 g1
structure PBw (X : Cx) (e : Expr) (m : M Bool) : Prop where
  run : ∀ c W, Takes X W → PW X e (tT (Sx X) c W m)
theorem PW.imp {X : Cx} {e : Expr} {t t' : TT} (h : PW X e t) (i : ∀ σ H Q, t' σ H Q → t σ H Q) : PW X e t' := ⟨fun wh pins s σ H Q I q => h.run wh pins s σ H Q I (i _ _ _ q)⟩
theorem pb_w {m : M Bool} (h : PBw X a m) : PB X a m := ⟨fun c W tk => (h.run c W tk).pt⟩
theorem pbw_and1 {m : M Bool} (h : PB X a m) : PBw X (.BoolOp .And [a] pos) m := ⟨fun c W tk => pw_and1 (h.run c W tk)⟩
theorem pbw_or1 {m : M Bool} (h : PB X a m) : PBw X (.BoolOp .Or [a] pos) m := ⟨fun c W tk => pw_or1 (h.run c W tk)⟩
theorem pbw_and {m n : M Bool} {rest : List Expr} (h : PB X a m) (h2 : PBw X (.BoolOp .And (b :: rest) pos) n) : PBw X (.BoolOp .And (a :: b :: rest) pos) (bAnd m n) := by
  refine ⟨fun c W tk => PW.imp (pw_and (h.run c W tk) (h2.run c W tk)) fun σ H Q ⟨F, e, r, k⟩ => ⟨F, e, r, ?_⟩⟩
  refine Okx.imp (Okx.bind k) fun b e1 k1 F1 H1 r1 g1 => ?_
  cases b with
  | false =>
    rw [if_neg Bool.false_ne_true] at k1 ⊢
    exact k1 F1 H1 r1 g1
  | true =>
    rw [if_pos rfl] at k1 ⊢
    exact ⟨F1, e1, r1, Okx.gr k1 g1 fun b e2 k2 F2 H2 r2 g2 => k2 F2 H2 r2 (g1.trans g2)⟩
theorem pbw_or {m n : M Bool} {rest : List Expr} (h : PB X a m) (h2 : PBw X (.BoolOp .Or (b :: rest) pos) n) : PBw X (.BoolOp .Or (a :: b :: rest) pos) (bOr m n) := by
  refine ⟨fun c W tk => PW.imp (pw_or (h.run c W tk) (h2.run c W tk)) fun σ H Q ⟨F, e, r, k⟩ => ⟨F, e, r, ?_⟩⟩
  refine Okx.imp (Okx.bind k) fun b e1 k1 F1 H1 r1 g1 => ?_
  cases b with
  | true =>
    rw [if_pos rfl] at k1 ⊢
    exact k1 F1 H1 r1 g1
  | false =>
    rw [if_neg Bool.false_ne_true] at k1 ⊢
    exact ⟨F1, e1, r1, Okx.gr k1 g1 fun b e2 k2 F2 H2 r2 g2 => k2 F2 H2 r2 (g1.trans g2)⟩
/-! as values -/
theorem px_not {m : M D} (h : PX X a m) : PX X (.UnaryOp .Not a pos) (eB (bNot (bE m))) := by
  refine ⟨fun c W tk => PE.imp (pe_not (h.run c W tk)) fun σ H Q ⟨F, e, r, k⟩ => ⟨F, e, r, ?_⟩⟩
  refine Okx.imp (Okx.bind (Okx.bind (Okx.bind k))) fun d e1 k1 v F1 H1 r1 g1 dv => ?_
  cases dv with
  | bl b => exact ⟨b, rfl, k1 _ F1 H1 r1 g1 (.bl _)⟩
  | _ => exact k1.elim
theorem px_one {m : M D} {op} (h : PX X a m) : PX X (.BoolOp op [a] pos) m := ⟨fun c W tk => pe_one (h.run c W tk)⟩
def eAnd (m n : M D) : M D := fun e => (m e).bind fun d e => match d with
  | .bl true => n e
  | .bl false => .ok (.bl false) e
  | _ => .bad
def eOr (m n : M D) : M D := fun e => (m e).bind fun d e => match d with
  | .bl true => .ok (.bl true) e
  | .bl false => n e
  | _ => .bad
theorem px_and {m n : M D} {rest : List Expr} (h : PX X a m) (h2 : PX X (.BoolOp .And (b :: rest) pos) n) : PX X (.BoolOp .And (a :: b :: rest) pos) (eAnd m n) := by
  refine ⟨fun c W tk => PE.imp (pe_and (h.run c W tk) (h2.run c W tk)) fun σ H Q ⟨F, e, r, k⟩ => ⟨F, e, r, ?_⟩⟩
  refine Okx.imp (Okx.bind k) fun d e1 k1 v F1 H1 r1 g1 dv => ?_
  cases dv with
  | bl b =>
    refine ⟨b, rfl, ?_⟩
    cases b with
    | false =>
      rw [if_neg Bool.false_ne_true]
      exact k1 _ F1 H1 r1 g1 (.bl _)
    | true =>
      rw [if_pos rfl]
      exact ⟨F1, e1, r1, Okx.gr k1 g1 fun b e2 k2 v F2 H2 r2 g2 => k2 v F2 H2 r2 (g1.trans g2)⟩
  | _ => exact k1.elim
theorem px_or {m n : M D} {rest : List Expr} (h : PX X a m) (h2 : PX X (.BoolOp .Or (b :: rest) pos) n) : PX X (.BoolOp .Or (a :: b :: rest) pos) (eOr m n) := by
  refine ⟨fun c W tk => PE.imp (pe_or (h.run c W tk) (h2.run c W tk)) fun σ H Q ⟨F, e, r, k⟩ => ⟨F, e, r, ?_⟩⟩
  refine Okx.imp (Okx.bind k) fun d e1 k1 v F1 H1 r1 g1 dv => ?_
  cases dv with
  | bl b =>
    refine ⟨b, rfl, ?_⟩
    cases b with
    | true =>
      rw [if_pos rfl]
      exact k1 _ F1 H1 r1 g1 (.bl _)
    | false =>
      rw [if_neg Bool.false_ne_true]
      exact ⟨F1, e1, r1, Okx.gr k1 g1 fun b e2 k2 v F2 H2 r2 g2 => k2 v F2 H2 r2 (g1.trans g2)⟩
  | _ => exact k1.elim
theorem px_if {t : Expr} {mt : M Bool} {m n : M D} (ht : PB X t mt) (h : PX X a m) (h2 : PX X b n) : PX X (.IfExp t a b pos) (eIf mt m n) := by
  refine ⟨fun c W tk => PE.imp (pe_ifExp (ht.run c W tk) (h.run c W tk) (h2.run c W tk)) fun σ H Q ⟨F, e, r, k⟩ => ⟨F, e, r, ?_⟩⟩
  refine Okx.imp (Okx.bind k) fun b e1 k1 F1 H1 r1 g1 => ?_
  cases b with
  | true =>
    rw [if_pos rfl] at k1 ⊢
    exact ⟨F1, e1, r1, Okx.gr k1 g1 fun b e2 k2 v F2 H2 r2 g2 => k2 v F2 H2 r2 (g1.trans g2)⟩
  | false =>
    rw [if_neg Bool.false_ne_true] at k1 ⊢
    exact ⟨F1, e1, r1, Okx.gr k1 g1 fun b e2 k2 v F2 H2 r2 g2 => k2 v F2 H2 r2 (g1.trans g2)⟩
end

/-! ### statements -/
inductive Fl where
  | nx | rt (d : D) | bk | ct
section
variable (S : Sg) (c : Bx) (W : WX)
def SPost (F : Hp) (G : Ends) (fl : Fl) (e : En) : Prop := match fl with
  | .nx => ∀ σ' F' H', Rel S c F' H' σ' e → Gr c F F' → G.nx σ' H'
  | .rt d => ∀ v σ' F' H', Rel S c F' H' σ' e → Gr c F F' → Dat S F' v d → G.rt v H'
  | .bk => ∀ σ' F' H', Rel S c F' H' σ' e → Gr c F F' → G.bk σ' H'
  | .ct => ∀ σ' F' H', Rel S c F' H' σ' e → Gr c F F' → G.ct σ' H'
def tS (m : M Fl) : TS := fun G σ H => ∃ F e, Rel S c F H σ e ∧ Okx S c W F (m e) fun fl e' => SPost S c F G fl e'
end
theorem SPost.gr {S : Sg} {c : Bx} {F F' : Hp} {G : Ends} {fl : Fl} {e : En} (h : SPost S c F G fl e) (g : Gr c F F') : SPost S c F' G fl e := by
  cases fl with
  | nx => exact fun σ' F2 H' r g' => h σ' F2 H' r (g.trans g')
  | rt d => exact fun v σ' F2 H' r g' => h v σ' F2 H' r (g.trans g')
  | bk => exact fun σ' F2 H' r g' => h σ' F2 H' r (g.trans g')
  | ct => exact fun σ' F2 H' r g' => h σ' F2 H' r (g.trans g')
structure PSd (X : Cx) (s : Stmt) (m : M Fl) : Prop where
  run : ∀ c W, Takes X W → PassesOwn (model X.prog X.w) X.A X.env X.xe → PS X s (tS (Sx X) c W m)
structure PSds (X : Cx) (s : List Stmt) (m : M Fl) : Prop where
  run : ∀ c W, Takes X W → PassesOwn (model X.prog X.w) X.A X.env X.xe → PSs X s (tS (Sx X) c W m)
def sNil : M Fl := fun e => .ok .nx e
def sSeq (m n : M Fl) : M Fl := fun e => (m e).bind fun fl e => match fl with
  | .nx => n e
  | .rt d => .ok (.rt d) e
  | .bk => .ok .bk e
  | .ct => .ok .ct e
def sIf (t : M Bool) (m n : M Fl) : M Fl := fun e => (t e).bind fun b e => if b = true then m e else n e
def sRet (m : M D) : M Fl := fun e => (m e).bind fun d e => .ok (.rt d) e
def sRetN : M Fl := fun e => .ok (.rt .non) e
def sBk : M Fl := fun e => .ok .bk e
def sCt : M Fl := fun e => .ok .ct e
def sExp (m : M D) : M Fl := fun e => (m e).bind fun _ e => .ok .nx e
/-- a slot that may be stored anew -/
def free (e : En) (i : Nat) : Bool := match e[i]? with
  | some (.ow true _) => false
  | some _ => true
  | none => false
def sSet (i : Nat) (m : M D) : M Fl := fun e => (m e).bind fun d e => if free e i = true then .ok .nx (e.set i (.fz d)) else .bad
def sNew (i : Nat) (m : M D) : M Fl := fun e => (m e).bind fun d e => if free e i = true then .ok .nx (e.set i (.ow false d)) else .bad
section
variable {S : Sg} {c : Bx} {F H : Hp} {σ : L2.St} {e : En}
theorem free_lt {i : Nat} (h : free e i = true) : i < e.length ∧ ∀ d, e[i]? ≠ some (.ow true d) := by
  unfold free at h
  cases z : e[i]? with
  | none => simp only [z] at h; cases h
  | some s =>
    refine ⟨(List.getElem?_eq_some_iff.mp z).1, fun d q => ?_⟩
    cases q
    simp only [z] at h
    cases h
theorem Rel.setFz {i : Nat} {v : V} {d : D} (r : Rel S c F H σ e) (h : Dat S F v d) (hf : free e i = true) : Rel S c F H (σ.set i (some v)) (e.set i (.fz d)) := by
  obtain ⟨hl, hn⟩ := free_lt hf
  have hs : i < σ.length := by rw [r.len]; exact hl
  refine ⟨r.bh, r.fh, by simp [r.len], fun {j d'} q => ?_, fun {j m d'} q => ?_, fun {j k m m' d1 d2 a} q1 q2 p1 p2 => ?_⟩
  · by_cases hj : i = j
    · subst hj
      rw [List.getElem?_set_self hl] at q
      cases q
      exact ⟨v, List.getElem?_set_self hs, h⟩
    · rw [List.getElem?_set_ne hj] at q ⊢
      exact r.fz q
  · by_cases hj : i = j
    · subst hj
      rw [List.getElem?_set_self hl] at q
      cases q
    · rw [List.getElem?_set_ne hj] at q ⊢
      exact r.ow q
  · have h1 : i ≠ j := fun z => by subst z; rw [List.getElem?_set_self hl] at q1; cases q1
    have h2 : i ≠ k := fun z => by subst z; rw [List.getElem?_set_self hl] at q2; cases q2
    rw [List.getElem?_set_ne h1] at q1 p1
    rw [List.getElem?_set_ne h2] at q2 p2
    exact r.dis q1 q2 p1 p2
theorem Rel.setOw {i : Nat} {p : Addr} {d : D} {H' : Hp} (r : Rel S c F H σ e) (hp : H p = none) (hh : Same H H') (fh : Same F H') (o : Own S F H' p d) (hf : free e i = true) : Rel S c F H' (σ.set i (some (.ref p))) (e.set i (.ow false d)) := by
  obtain ⟨hl, hn⟩ := free_lt hf
  have hs : i < σ.length := by rw [r.len]; exact hl
  have r' : Rel S c F H' σ e := r.ext ⟨Same.refl _, hh, fh, fun _ h n => absurd h n⟩
  have np : ∀ {j : Nat} {m : Bool} {d' : D} {a : Addr}, e[j]? = some (.ow m d') → σ[j]? = some (some (.ref a)) → a ≠ p := fun q s z => by
    obtain ⟨a', h1, _, _, h4, _⟩ := r.ow q
    rw [s] at h1
    cases h1
    obtain ⟨u, hu⟩ := h4.there
    rw [z, hp] at hu
    cases hu
  refine ⟨r'.bh, r'.fh, by simp [r.len], fun {j d'} q => ?_, fun {j m d'} q => ?_, fun {j k m m' d1 d2 a} q1 q2 p1 p2 => ?_⟩
  · by_cases hj : i = j
    · subst hj
      rw [List.getElem?_set_self hl] at q
      cases q
    · rw [List.getElem?_set_ne hj] at q ⊢
      exact r'.fz q
  · by_cases hj : i = j
    · subst hj
      rw [List.getElem?_set_self hl] at q
      cases q
      exact ⟨p, List.getElem?_set_self hs, Same.free r.fh hp, Same.free r.bh hp, o, fun z => nomatch z⟩
    · rw [List.getElem?_set_ne hj] at q ⊢
      exact r'.ow q
  · by_cases h1 : i = j
    · by_cases h2 : i = k
      · exact h1.symm.trans h2
      · subst h1
        rw [List.getElem?_set_self hs] at p1
        rw [List.getElem?_set_ne h2] at q2 p2
        cases p1
        exact absurd rfl (np q2 p2)
    · by_cases h2 : i = k
      · subst h2
        rw [List.getElem?_set_self hs] at p2
        rw [List.getElem?_set_ne h1] at q1 p1
        cases p2
        exact absurd rfl (np q1 p1)
      · rw [List.getElem?_set_ne h1] at q1 p1
        rw [List.getElem?_set_ne h2] at q2 p2
        exact r.dis q1 q2 p1 p2
end
section
variable {X : Cx} {a b : Expr} {s : Stmt} {ss : List Stmt} {pos : Pos}
theorem pd_nil : PSds X [] sNil := ⟨fun c W tk pw => PSs.imp pss_nil fun G σ H ⟨F, e, r, k⟩ => k σ F H r Gr.refl⟩
theorem pd_cons {m n : M Fl} (h : PSd X s m) (h2 : PSds X ss n) : PSds X (s :: ss) (sSeq m n) := by
  refine ⟨fun c W tk pw => PSs.imp (pss_cons (h.run c W tk pw) (h2.run c W tk pw)) fun G σ H ⟨F, e, r, k⟩ => ⟨F, e, r, ?_⟩⟩
  refine Okx.imp (Okx.bind k) fun fl e1 k1 => ?_
  cases fl with
  | nx => exact fun σ' F' H' r' g => ⟨F', e1, r', Okx.gr k1 g fun fl e2 k2 => k2.gr g⟩
  | rt d => exact k1
  | bk => exact k1
  | ct => exact k1
theorem pd_one {m : M Fl} (h : PSd X s m) : PSds X [s] m := ⟨fun c W tk pw => pss_one (h.run c W tk pw)⟩
theorem pd_if {t : Expr} {sa sb : List Stmt} {mt : M Bool} {m n : M Fl} (ht : PB X t mt) (h : PSds X sa m) (h2 : PSds X sb n) : PSd X (.If t sa sb pos) (sIf mt m n) := by
  refine ⟨fun c W tk pw => PS.imp (ps_if (ht.run c W tk) (h.run c W tk pw) (h2.run c W tk pw)) fun G σ H ⟨F, e, r, k⟩ => ⟨F, e, r, ?_⟩⟩
  refine Okx.imp (Okx.bind k) fun b e1 k1 F1 H1 r1 g1 => ?_
  cases b with
  | true =>
    rw [if_pos rfl] at k1 ⊢
    exact ⟨F1, e1, r1, Okx.gr k1 g1 fun fl e2 k2 => k2.gr g1⟩
  | false =>
    rw [if_neg Bool.false_ne_true] at k1 ⊢
    exact ⟨F1, e1, r1, Okx.gr k1 g1 fun fl e2 k2 => k2.gr g1⟩
theorem pd_ret {m : M D} (h : PX X a m) : PSd X (.Return (some a) pos) (sRet m) := by
  refine ⟨fun c W tk pw => PS.imp (ps_ret (h.run c W tk)) fun G σ H ⟨F, e, r, k⟩ => ⟨F, e, r, ?_⟩⟩
  exact Okx.imp (Okx.bind k) fun d e1 k1 v F1 H1 r1 g1 dv => k1 v σ F1 H1 r1 g1 dv
theorem pd_retN : PSd X (.Return none pos) sRetN := ⟨fun c W tk pw => PS.imp ps_retN fun G σ H ⟨F, e, r, k⟩ => k .non σ F H r Gr.refl .non⟩
theorem pd_pass : PSd X (.Pass pos) sNil := ⟨fun c W tk pw => PS.imp ps_pass fun G σ H ⟨F, e, r, k⟩ => k σ F H r Gr.refl⟩
theorem pd_bk : PSd X (.Break pos) sBk := ⟨fun c W tk pw => PS.imp ps_break fun G σ H ⟨F, e, r, k⟩ => k σ F H r Gr.refl⟩
theorem pd_ct : PSd X (.Continue pos) sCt := ⟨fun c W tk pw => PS.imp ps_continue fun G σ H ⟨F, e, r, k⟩ => k σ F H r Gr.refl⟩
theorem pd_exp {m : M D} (h : PX X a m) (hs : swapsWith a none pos.line X.env = pure false := by rfl) : PSd X (.Expr a pos) (sExp m) := by
  refine ⟨fun c W tk pw => PS.imp (ps_expr (h.run c W tk) hs) fun G σ H ⟨F, e, r, k⟩ => ⟨F, e, r, ?_⟩⟩
  exact Okx.imp (Okx.bind k) fun d e1 k1 v F1 H1 r1 g1 dv => k1 σ F1 H1 r1 g1
theorem pd_set (i : Nat) {x : Str} {m : M D} {pos' : Pos} (hN : X.N.Nodup) (h : PX X a m) (hi : X.N[i]? = some x := by rfl) (hx : Loc X.env.scope x := by first | exact Or.inl rfl | exact Or.inr rfl) (hs : swapsWith a (some (.Name x pos')) pos.line X.env = pure false := by rfl)
    (hf : X.fn x = true ∨ X.env.scope.names.lookup x = some .local := by first | exact .inl rfl | exact .inr rfl) : PSd X (.Assign [.Name x pos'] a pos) (sSet i m) := by
  refine ⟨fun c W tk pw => PS.imp (ps_set (i := i) hN hi hx (h.run c W tk) hs hf) fun G σ H ⟨F, e, r, k⟩ => ⟨F, e, r, ?_⟩⟩
  refine Okx.imp (Okx.bind k) fun d e1 k1 v F1 H1 r1 g1 dv => ?_
  by_cases hf : free e1 i = true
  · rw [if_pos hf] at k1
    exact k1 _ F1 H1 (r1.setFz dv hf) g1
  · rw [if_neg hf] at k1
    exact k1.elim
theorem pd_new (i : Nat) {x : Str} {m : M D} {pos' : Pos} (hN : X.N.Nodup) (h : PN X a m) (hi : X.N[i]? = some x := by rfl) (hx : Loc X.env.scope x := by first | exact Or.inl rfl | exact Or.inr rfl) (hs : swapsWith a (some (.Name x pos')) pos.line X.env = pure false := by rfl)
    (hf : X.fn x = true ∨ X.env.scope.names.lookup x = some .local := by first | exact .inl rfl | exact .inr rfl) : PSd X (.Assign [.Name x pos'] a pos) (sNew i m) := by
  refine ⟨fun c W tk pw => PS.imp (ps_set (i := i) hN hi hx (h.run c W tk) hs hf) fun G σ H ⟨F, e, r, k⟩ => ⟨F, e, r, ?_⟩⟩
  refine Okx.imp (Okx.bind k) fun d e1 k1 p F1 H1 H0 r1 g1 hp hh fh ow => ?_
  by_cases hf : free e1 i = true
  · rw [if_pos hf] at k1
    exact k1 _ F1 H1 (r1.setOw hp hh fh ow hf) g1
  · rw [if_neg hf] at k1
    exact k1.elim
end

/-! ### sharing what was owned -/
theorem Own.dat {S : Sg} {F H : Hp} {a : Addr} {d : D} (h : Own S F H a d) (hF : F a = none) : ∃ o, H a = some o ∧ Dat S (upd F a o) (.ref a) d := by
  cases d with
  | lst ds => obtain ⟨xs, h1, h2, h3⟩ := h; exact ⟨_, h1, .lst (.inl upd_same) h3 (h2.mono (same_new hF))⟩
  | dic kd => obtain ⟨kv, h1, h2, h3, h4⟩ := h; exact ⟨_, h1, .dic (.inl upd_same) h2 h3 (h4.mono (same_new hF))⟩
  | dit kd => obtain ⟨kv, h1, h2, h3, h4⟩ := h; exact ⟨_, h1, .dit (.inl upd_same) h2 h3 (h4.mono (same_new hF))⟩
  | obj cn kd => obtain ⟨C, dx, kv, h1, h2, h3, h4⟩ := h; exact ⟨_, h1, .obj h2 upd_same h3 (h4.mono (same_new hF))⟩
  | _ => exact h.elim
/-- a new object is shared at once -/
theorem px_new {X : Cx} {e : Expr} {m : M D} (h : PN X e m) : PX X e m := by
  refine ⟨fun c W tk => PE.imp (h.run c W tk) fun σ H Q ⟨F, e, r, k⟩ => ⟨F, e, r, ?_⟩⟩
  refine Okx.imp k fun d e1 k1 p F1 H1 H0 r1 g1 hp hh fh ow => ?_
  have hF : F1 p = none := Same.free r1.fh hp
  obtain ⟨o, ho, dd⟩ := ow.dat hF
  have x : Ext F1 H0 (upd F1 p o) H1 := ⟨same_new hF, hh, fun b u q => by
    by_cases hb : b = p
    · subst hb; rw [upd_same] at q; cases q; exact ho
    · rw [upd_ne hb] at q; exact fh _ _ q, fun b h1 h2 => by
    by_cases hb : b = p
    · rw [hb]; exact hp
    · rw [upd_ne hb] at h2; exact absurd h1 h2⟩
  exact k1 _ _ _ (r1.ext x) (g1.trans (r1.gr x)) dd
theorem py_new {X : Cx} {e : Expr} {m : M D} (h : PN X e m) : PY X e (oVa m) := py_of (px_new h)
/-- the ghost step: slot i is shared from here on -/
def frz (i : Nat) (e : En) : Option En := match e[i]? with
  | some (.ow false d) => some (e.set i (.fz d))
  | some (.fz _) => some e
  | _ => none
def sFrz (i : Nat) (m : M Fl) : M Fl := fun e => match frz i e with
  | some e' => m e'
  | none => .bad
theorem Rel.frz {S : Sg} {c : Bx} {F H : Hp} {σ : L2.St} {e e' : En} {i : Nat} (r : Rel S c F H σ e) (h : frz i e = some e') : ∃ F', Rel S c F' H σ e' ∧ Gr c F F' := by
  unfold DP.frz at h
  cases z : e[i]? with
  | none => simp only [z] at h; cases h
  | some s =>
    simp only [z] at h
    cases s with
    | no => cases h
    | fz d => cases h; exact ⟨F, r, Gr.refl⟩
    | ow m d =>
      cases m with
      | true => cases h
      | false =>
        cases h
        obtain ⟨a, h1, h2, h3, h4, _⟩ := r.ow z
        obtain ⟨o, ho, dd⟩ := h4.dat h2
        have hl : i < e.length := (List.getElem?_eq_some_iff.mp z).1
        have sm : Same F (upd F a o) := same_new h2
        refine ⟨upd F a o, ⟨r.bh, fun b u q => ?_, by simp [r.len], fun {j d'} q => ?_, fun {j m d'} q => ?_, fun {j k m m' d1 d2 a'} q1 q2 p1 p2 => ?_⟩, sm, fun b hb hn => ?_⟩
        · by_cases hb : b = a
          · subst hb; rw [upd_same] at q; cases q; exact ho
          · rw [upd_ne hb] at q; exact r.fh _ _ q
        · by_cases hj : i = j
          · subst hj
            rw [List.getElem?_set_self hl] at q
            cases q
            exact ⟨_, h1, dd⟩
          · rw [List.getElem?_set_ne hj] at q
            obtain ⟨v, q1, q2⟩ := r.fz q
            exact ⟨v, q1, q2.mono sm⟩
        · have hj : i ≠ j := fun y => by subst y; rw [List.getElem?_set_self hl] at q; cases q
          rw [List.getElem?_set_ne hj] at q
          obtain ⟨a', p1, p2, p3, p4, p5⟩ := r.ow q
          have na : a' ≠ a := fun y => hj (r.dis z q h1 (by rw [p1, y]))
          exact ⟨a', p1, by rw [upd_ne na]; exact p2, p3, p4.mono sm fun _ w => w, p5⟩
        · have n1 : i ≠ j := fun y => by subst y; rw [List.getElem?_set_self hl] at q1; cases q1
          have n2 : i ≠ k := fun y => by subst y; rw [List.getElem?_set_self hl] at q2; cases q2
          rw [List.getElem?_set_ne n1] at q1
          rw [List.getElem?_set_ne n2] at q2
          exact r.dis q1 q2 p1 p2
        · by_cases e1 : b = a
          · rw [e1]; exact h3
          · rw [upd_ne e1] at hn; exact absurd hb hn
theorem pd_frz (i : Nat) {X : Cx} {s : Stmt} {m : M Fl} (h : PSd X s m) : PSd X s (sFrz i m) := by
  refine ⟨fun c W tk pw => PS.imp (h.run c W tk pw) fun G σ H ⟨F, e, r, k⟩ => ?_⟩
  unfold sFrz at k
  cases z : frz i e with
  | none => simp only [z] at k; exact k.elim
  | some e' =>
    simp only [z] at k
    obtain ⟨F', r', g⟩ := r.frz z
    exact ⟨F', e', r', Okx.gr k g fun fl e2 k2 => k2.gr g⟩
end DP
set_option Elab.async false
set_option linter.all false
set_option maxRecDepth 100000
set_option maxHeartbeats 2000000
/-! DP4: what is walked, for, list comprehensions, stores. -/
namespace DP
open PySem PySem.Spec L2
open PyProof.Rows hiding St

theorem PI.imp {X : Cx} {tg e : Expr} {t t' : TI} (h : PI X tg e t) (i : ∀ σ H Q, t' σ H Q → t σ H Q) : PI X tg e t' := ⟨fun pins s σ H Q I q => h.run pins s σ H Q I (i _ _ _ q)⟩
theorem PG.imp {X : Cx} {tg : Expr} {t t' : TG} (h : PG X tg t) (i : ∀ v σ H Q, t' v σ H Q → t v σ H Q) : PG X tg t' := ⟨fun pins s σ H v u Q I r q => h.run pins s σ H v u Q I r (i _ _ _ _ q)⟩

/-- the iterator gives the data ds, in order -/
def ItOk (S : Sg) (F : Hp) (J : It) (ds : List D) : Prop := ∀ F' H', Same F F' → Same F' H' → ∀ i : Nat,
  (∀ d, ds[i]? = some d → J.go i H' ∧ ∀ x H'', J.yld i H' x H'' → ∃ F'', Ext F' H' F'' H'' ∧ Dat S F'' x d) ∧ (ds.length ≤ i → J.stop i H')
section
variable (S : Sg) (c : Bx) (W : WX)
def tI (m : M (List D)) : TI := fun σ H Q => ∃ F e, Rel S c F H σ e ∧ Okx S c W F (m e) fun ds e' => ∀ J F' H', Rel S c F' H' σ e' → Gr c F F' → ItOk S F' J ds → Q J H'
def tG (is : List Nat) (st : D → En → Option En) : TG := fun v σ H Q => ∃ F e d e', Rel S c F H σ e ∧ Dat S F v d ∧ st d e = some e' ∧ ∀ σ' F' H', Rel S c F' H' σ' e' → Gr c F F' → (σ'.length = σ.length ∧ ∀ j, j ∉ is → σ'[j]? = σ[j]?) → Q σ' H'
end
structure PIt (X : Cx) (tg e : Expr) (m : M (List D)) : Prop where
  run : ∀ c W, Takes X W → PI X tg e (tI (Sx X) c W m)
structure PGd (X : Cx) (tg : Expr) (is : List Nat) (st : D → En → Option En) : Prop where
  run : ∀ c, PG X tg (tG (Sx X) c is st)
def itD : D → Option (List D)
  | .lst ds => some ds
  | .tup ds => some ds
  | .scr ns => some (ns.map D.int)
  | .str x => some (x.cps.toList.map fun c => .str ⟨#[c]⟩)
  | _ => none
def iD (m : M D) : M (List D) := fun e => (m e).bind fun d e => match itD d with
  | some ds => .ok ds e
  | none => .bad
def rngs (lo hi : Int) : List D := (List.range (hi - lo).toNat).map fun i => .int (lo + (i : Nat))
def small (i : Int) : Bool := decide (i.natAbs < 4611686018427387904)
theorem small_ok {i : Int} (h : small i = true) : -(2 ^ 62) ≤ i ∧ i < 2 ^ 62 := by
  unfold small at h
  have h := of_decide_eq_true h
  omega
def iRg1 (m : M (List Op)) : M (List D) := fun e => (m e).bind fun os e => match os with
  | [.va (.int j)] => if small j = true then .ok (rngs 0 j) e else .bad
  | _ => .bad
def iRg2 (m : M (List Op)) : M (List D) := fun e => (m e).bind fun os e => match os with
  | [.va (.int i), .va (.int j)] => if small i = true ∧ small j = true then .ok (rngs i j) e else .bad
  | _ => .bad
def gN (i : Nat) : D → En → Option En := fun d e => if free e i = true then some (e.set i (.fz d)) else none
def gNs : List Nat → List D → En → Option En
  | [], [], e => some e
  | i :: is, d :: ds, e => match gN i d e with
    | some e' => gNs is ds e'
    | none => none
  | _, _, _ => none
def gT (is : List Nat) : D → En → Option En := fun d e => match d with
  | .tup ds => gNs is ds e
  | _ => none
def forL (st : D → En → Option En) (body : M Fl) : List D → M Fl
  | [] => fun e => .ok .nx e
  | d :: ds => fun e => match st d e with
    | none => .bad
    | some e1 => (body e1).bind fun fl e2 => match fl with
      | .nx => forL st body ds e2
      | .ct => forL st body ds e2
      | .bk => .ok .nx e2
      | .rt d => .ok (.rt d) e2
def sFor (m : M (List D)) (st : D → En → Option En) (body : M Fl) : M Fl := fun e => (m e).bind fun ds e => forL st body ds e
section
variable {S : Sg} {F H : Hp}
theorem itok_list {a : Addr} {xs : List V} {ds : List D} (h : SqL S.K F a xs) (hd : Dats S F xs ds) : ItOk S F (Itl S.K a) ds := fun F' H' fm fh i => by
  have hs : SqL S.K H' a xs := L2.Same.seq fh (L2.Same.seq fm h)
  refine ⟨fun d hi => ?_, fun hi => ⟨xs, hs, by rw [hd.length]; exact hi⟩⟩
  obtain ⟨v, hv, dv⟩ := hd.get hi
  refine ⟨⟨xs, v, hs, hv⟩, fun x H'' hy => ?_⟩
  obtain ⟨rfl, hx⟩ := hy
  have e : x = v := Option.some.inj ((hx _ hs).symm.trans hv)
  subst e
  exact ⟨F', Ext.refl fh, dv.mono fm⟩
theorem itok_tup {a : Addr} {xs : List V} {ds : List D} (h : SqT S.K F a xs) (hd : Dats S F xs ds) : ItOk S F (Itt S.K a) ds := fun F' H' fm fh i => by
  have hs : SqT S.K H' a xs := Same.seqT fh (Same.seqT fm h)
  refine ⟨fun d hi => ?_, fun hi => ⟨xs, hs, by rw [hd.length]; exact hi⟩⟩
  obtain ⟨v, hv, dv⟩ := hd.get hi
  refine ⟨⟨xs, v, hs, hv⟩, fun x H'' hy => ?_⟩
  obtain ⟨rfl, hx⟩ := hy
  have e : x = v := Option.some.inj ((hx _ hs).symm.trans hv)
  subst e
  exact ⟨F', Ext.refl fh, dv.mono fm⟩
theorem sOk_sign {x : Str} (h : sOk x) {c : Nat} (hc : c ∈ x.cps.toList) : sOk ⟨#[c]⟩ := by
  refine ⟨?_, ?_⟩
  · show 1 ≤ sizeLine
    rw [sizeLine_eq]; omega
  · have h2 := h.2
    unfold PyData.strOk at h2 ⊢
    rw [← Array.all_toList] at h2 ⊢
    have z := List.all_eq_true.mp h2 c hc
    simp only [List.all_cons, List.all_nil, Bool.and_true]
    exact z
theorem itok_str {x : Str} (h : sOk x) : ItOk S F (Its x) (x.cps.toList.map fun c => .str ⟨#[c]⟩) := fun F' H' fm fh i => by
  refine ⟨fun d hi => ?_, fun hi => ?_⟩
  · rw [List.getElem?_map, Option.map_eq_some_iff] at hi
    obtain ⟨c, hc, rfl⟩ := hi
    have hl : i < x.cps.toList.length := (List.getElem?_eq_some_iff.mp hc).1
    refine ⟨(by simpa using hl : i < x.cps.size), fun v H'' hy => ?_⟩
    obtain ⟨rfl, c', hc', rfl⟩ := hy
    have e : c' = c := by
      have q : x.cps.toList[i]? = some c' := by simpa using hc'
      exact Option.some.inj (q.symm.trans hc)
    subst e
    exact ⟨F', Ext.refl fh, .str (sOk_sign h (List.mem_of_getElem? hc))⟩
  · rw [List.length_map] at hi
    show x.cps.size ≤ i
    simpa using hi
theorem rngs_len {lo hi : Int} : (rngs lo hi).length = (hi - lo).toNat := by unfold rngs; rw [List.length_map, List.length_range]
theorem itok_rng {lo hi : Int} : ItOk S F (Itr lo (hi - lo).toNat) (rngs lo hi) := fun F' H' fm fh i => by
  refine ⟨fun d q => ?_, fun q => by rw [rngs_len] at q; exact q⟩
  have hl : i < (rngs lo hi).length := (List.getElem?_eq_some_iff.mp q).1
  rw [rngs_len] at hl
  unfold rngs at q
  rw [List.getElem?_map, List.getElem?_range hl] at q
  have e : D.int (lo + (i : Nat)) = d := Option.some.inj q
  subst e
  refine ⟨hl, fun x H'' hy => ?_⟩
  obtain ⟨rfl, rfl⟩ := hy
  exact ⟨F', Ext.refl fh, .int _⟩
end
section
variable {X : Cx} {tg a b iter : Expr} {pos p : Pos}
theorem PI.or {w1 w2 : TI} (h1 : PI X tg a w1) (h2 : PI X tg a w2) : PI X tg a (fun σ H R => w1 σ H R ∨ w2 σ H R) := ⟨fun pins s σ H R I q => by
  rcases q with q | q
  · exact h1.run pins s σ H R I q
  · exact h2.run pins s σ H R I q⟩
theorem pi_seq {m : M D} (h : PX X a m) : PIt X tg a (iD m) := by
  refine ⟨fun c W tk => PI.imp (PI.or (pi_list (h.run c W tk)) (PI.or (pi_tup (h.run c W tk)) (pi_str (h.run c W tk)))) fun σ H Q ⟨F, e, r, k⟩ => ?_⟩
  have k0 := Okx.bind k
  cases z : m e with
  | bad => rw [z] at k0; exact k0.elim
  | ex n fs e1 =>
    rw [z] at k0
    exact .inl ⟨F, e, r, by rw [z]; exact k0⟩
  | ok d e1 =>
    rw [z] at k0
    have k1 : Okx (Sx X) c W F (match itD d with
      | some ds => R.ok ds e1
      | none => R.bad) _ := k0
    cases d with
    | lst ds =>
      refine .inl ⟨F, e, r, ?_⟩
      rw [z]
      intro v F1 H1 r1 g1 dv
      cases dv with
      | lst hs hl hd => exact ⟨_, rfl, ⟨_, .inl (Same.rd r1.fh hs)⟩, k1 _ F1 H1 r1 g1 (itok_list (S := Sx X) (.inl hs) hd)⟩
    | scr ns =>
      refine .inl ⟨F, e, r, ?_⟩
      rw [z]
      intro v F1 H1 r1 g1 dv
      cases dv with
      | scr hs hl => exact ⟨_, rfl, ⟨_, L2.Same.seq r1.fh hs⟩, k1 _ F1 H1 r1 g1 (itok_list (S := Sx X) hs (Dats.ints ns))⟩
    | tup ds =>
      refine .inr (.inl ⟨F, e, r, ?_⟩)
      rw [z]
      intro v F1 H1 r1 g1 dv
      cases dv with
      | tup hs hl hd => exact ⟨_, rfl, ⟨_, Same.seqT r1.fh hs⟩, k1 _ F1 H1 r1 g1 (itok_tup (S := Sx X) hs hd)⟩
    | str x =>
      refine .inr (.inr ⟨F, e, r, ?_⟩)
      rw [z]
      intro v F1 H1 r1 g1 dv
      cases dv with
      | str hx => exact ⟨_, rfl, k1 _ F1 H1 r1 g1 (itok_str hx)⟩
    | _ => exact k1.elim
theorem pi_rg1 {m : M (List Op)} (h : PAr X [a] m) (hm : X.mg "range" = none) (hg : Gl X "range" := by rfl) (hs : starEach [a] X.env = [(false, eval a X.env)] := by rfl) : PIt X tg (.Call (.Name "range" p) [a] [] pos) (iRg1 m) := by
  refine ⟨fun c W tk => PI.imp (pi_range1 hg hm (h.run c W tk) hs) fun σ H Q ⟨F, e, r, k⟩ => ⟨F, e, r, ?_⟩⟩
  refine Okx.imp (Okx.bind k) fun os e1 k1 vs F1 H1 r1 g1 o1 => ?_
  match os, o1, k1 with
  | [.va (.int j)], .cons h1 .nil, k1 =>
    by_cases hj : small j = true
    · simp only [hj, if_true] at k1
      cases h1
      obtain ⟨q1, q2⟩ := small_ok hj
      refine ⟨j, rfl, q1, q2, k1 _ F1 H1 r1 g1 ?_⟩
      have := itok_rng (S := Sx X) (F := F1) (lo := 0) (hi := j)
      rw [Int.sub_zero] at this
      exact this
    · simp only [hj] at k1
      exact k1.elim
theorem pi_rg2 {m : M (List Op)} (h : PAr X [a, b] m) (hm : X.mg "range" = none) (hg : Gl X "range" := by rfl) (hs : starEach [a, b] X.env = [(false, eval a X.env), (false, eval b X.env)] := by rfl) (hs2 : starEach [b] X.env = [(false, eval b X.env)] := by rfl) :
    PIt X tg (.Call (.Name "range" p) [a, b] [] pos) (iRg2 m) := by
  refine ⟨fun c W tk => PI.imp (pi_range2 hg hm (h.run c W tk) hs hs2) fun σ H Q ⟨F, e, r, k⟩ => ⟨F, e, r, ?_⟩⟩
  refine Okx.imp (Okx.bind k) fun os e1 k1 vs F1 H1 r1 g1 o1 => ?_
  match os, o1, k1 with
  | [.va (.int i), .va (.int j)], .cons h1 (.cons h2 .nil), k1 =>
    by_cases hj : small i = true ∧ small j = true
    · simp only [hj, and_self, if_true] at k1
      cases h1
      cases h2
      obtain ⟨q1, q2⟩ := small_ok hj.1
      obtain ⟨q3, q4⟩ := small_ok hj.2
      exact ⟨i, j, rfl, ⟨q1, q2, q3, q4⟩, k1 _ F1 H1 r1 g1 itok_rng⟩
    · simp only [hj, if_false] at k1
      exact k1.elim
/-! targets -/
theorem pgd_name (i : Nat) {x : Str} (hN : X.N.Nodup) (hi : X.N[i]? = some x := by rfl) (hx : Loc X.env.scope x := by first | exact Or.inl rfl | exact Or.inr rfl) (hf : X.fn x = true ∨ X.env.scope.names.lookup x = some .local := by first | exact .inl rfl | exact .inr rfl) : PGd X (.Name x pos) [i] (gN i) := by
  refine ⟨fun c => PG.imp (pg_name (i := i) hN hi hx hf) fun v σ H Q ⟨F, e, d, e', r, dv, hs, k⟩ => ?_⟩
  unfold gN at hs
  by_cases hf : free e i = true
  · rw [if_pos hf] at hs
    cases hs
    exact k _ F H (r.setFz dv hf) Gr.refl ⟨by simp, fun j hj => List.getElem?_set_ne (fun z => hj (by rw [z]; exact List.mem_singleton.mpr rfl))⟩
  · rw [if_neg hf] at hs
    cases hs
theorem PGs.imp {X : Cx} {tg : List Expr} {t t' : TGs} (h : PGs X tg t) (i : ∀ v σ H Q, t' v σ H Q → t v σ H Q) : PGs X tg t' := ⟨fun pins s σ H v u Q I r q => h.run pins s σ H v u Q I r (i _ _ _ _ q)⟩
def tGs (S : Sg) (c : Bx) (is : List Nat) : TGs := fun vs σ H Q => ∃ F e ds e', Rel S c F H σ e ∧ Dats S F vs ds ∧ gNs is ds e = some e' ∧ ∀ σ' F' H', Rel S c F' H' σ' e' → Gr c F F' → (σ'.length = σ.length ∧ ∀ j, j ∉ is → σ'[j]? = σ[j]?) → Q σ' H'
structure PGds (X : Cx) (tg : List Expr) (is : List Nat) : Prop where
  run : ∀ c, PGs X tg (tGs (Sx X) c is)
theorem pgds_nil : PGds X [] [] := by
  refine ⟨fun c => PGs.imp pgs_nil fun vs σ H Q ⟨F, e, ds, e', r, dv, hs, k⟩ => ?_⟩
  cases dv with
  | nil =>
    have hs' : some e = some e' := hs
    cases hs'
    exact ⟨rfl, k σ F H r Gr.refl ⟨rfl, fun _ _ => rfl⟩⟩
  | cons h t => cases hs
theorem pgds_cons {x : Expr} {xs : List Expr} {i : Nat} {is : List Nat} (h : PGd X x [i] (gN i)) (h2 : PGds X xs is) (hs : (assignEach (x :: xs) X.env).map (·.2) = assign x X.env :: (assignEach xs X.env).map (·.2) := by rfl) : PGds X (x :: xs) (i :: is) := by
  refine ⟨fun c => PGs.imp (pgs_cons (h.run c) (h2.run c) hs) fun vs σ H Q ⟨F, e, ds, e', r, dv, hs, k⟩ => ?_⟩
  match vs, ds, dv, hs with
  | [], [], .nil, hs => cases hs
  | v :: vs, d :: ds, .cons dh dt, hs =>
    have hs' : (match gN i d e with
      | some e' => gNs is ds e'
      | none => none) = some e' := hs
    cases z : gN i d e with
    | none => rw [z] at hs'; cases hs'
    | some e1 =>
      rw [z] at hs'
      exact ⟨v, vs, rfl, F, e, d, e1, r, dh, z, fun σ' F' H' r' g a1 => ⟨F', e1, ds, e', r', dt.mono g.1, hs', fun σ2 F2 H2 r2 g2 a2 => k σ2 F2 H2 r2 (g.trans g2) ⟨a2.1.trans a1.1, fun j hj => (a2.2 j fun z => hj (List.mem_cons_of_mem _ z)).trans (a1.2 j fun z => hj (by rw [List.mem_singleton.mp z]; exact List.mem_cons_self))⟩⟩⟩
theorem gNs_len : ∀ {is : List Nat} {ds : List D} {e e' : En}, gNs is ds e = some e' → is.length = ds.length
  | [], [], _, _, _ => rfl
  | i :: is, d :: ds, e, e', h => by
    have hs' : (match gN i d e with
      | some e' => gNs is ds e'
      | none => none) = some e' := h
    cases z : gN i d e with
    | none => rw [z] at hs'; cases hs'
    | some e1 =>
      rw [z] at hs'
      exact congrArg (· + 1) (gNs_len hs')
  | [], _ :: _, _, _, h => by cases h
  | _ :: _, [], _, _, h => by cases h
theorem pgd_tup {xs : List Expr} {k : Nat} {is : List Nat} (hc : X.calm = true) (h : PGds X xs is) (hn : (assignEach xs X.env).length = is.length := by rfl) (hst : (assignEach xs X.env).findIdx? (·.1) = none := by rfl) : PGd X (.Tuple xs k pos) is (gT is) := by
  refine ⟨fun c => PG.imp (pg_tup hc (h.run c) hn hst) fun v σ H Q ⟨F, e, d, e', r, dv, hs, k⟩ => ?_⟩
  cases dv with
  | tup hq hl hd =>
    have hs' : gNs is _ e = some e' := hs
    exact ⟨_, _, rfl, Same.seqT r.fh hq, by rw [hd.length, ← gNs_len hs'], F, e, _, e', r, hd, hs', k⟩
  | _ => cases hs
/-- a, b = e -/
def sSetT (st : D → En → Option En) (m : M D) : M Fl := fun e => (m e).bind fun d e => match st d e with
  | some e' => .ok .nx e'
  | none => .bad
theorem pd_asg {is : List Nat} {st : D → En → Option En} {m : M D} (h : PX X a m) (hg : PGd X tg is st) (hs : swapsWithSole [tg] a pos.line X.env = pure false := by rfl) (hw : swappedStores [tg] a X.env = pure none := by rfl)
    (h1 : (assignEach [tg] X.env).map (·.2) = [assign tg X.env] := by rfl) : PSd X (.Assign [tg] a pos) (sSetT st m) := by
  refine ⟨fun c W tk pw => PS.imp (ps_asg (h.run c W tk) (hg.run c) hs hw h1) fun G σ H ⟨F, e, r, k⟩ => ⟨F, e, r, ?_⟩⟩
  refine Okx.imp (Okx.bind k) fun d e1 k1 v F1 H1 r1 g1 dv => ?_
  cases z : st d e1 with
  | none => simp only [z] at k1; exact k1.elim
  | some e2 =>
    simp only [z] at k1
    exact ⟨F1, e1, d, e2, r1, dv, z, fun σ' F' H' r' g _ => k1 σ' F' H' r' (g1.trans g)⟩
/-- for -/
theorem pd_for {is : List Nat} {m : M (List D)} {st : D → En → Option En} {body : List Stmt} {mb : M Fl} (hc : X.calm = true) (hi : PIt X tg iter m) (hg : PGd X tg is st) (hb : PSds X body mb) (hs : ∀ x, foldedSetIterable iter X.env x = pure x := by intro _; rfl) :
    PSd X (.For tg iter body [] pos) (sFor m st mb) := by
  refine ⟨fun c W tk pw => PS.imp (ps_for pw hc (hi.run c W tk) (hg.run c) (hb.run c W tk pw) hs) fun G σ H ⟨F, e, r, k⟩ => ⟨F, e, r, ?_⟩⟩
  refine Okx.imp (Okx.bind k) fun ds e1 k1 J F1 H1 r1 g1 ok => ?_
  refine ⟨fun i m σ H => i + m = ds.length ∧ ∃ F2 e2, Rel (Sx X) c F2 H σ e2 ∧ Gr c F1 F2 ∧ Okx (Sx X) c W F2 (forL st mb (ds.drop i) e2) fun fl e' => SPost (Sx X) c F2 G fl e',
    ⟨ds.length, Nat.zero_add _, F1, e1, r1, Gr.refl, Okx.gr k1 g1 fun fl e' q => q.gr g1⟩, fun i m σ H hW => ?_⟩
  obtain ⟨him, F2, e2, r2, g2, k2⟩ := hW
  have okk := ok F2 H g2.1 r2.fh i
  by_cases hlt : i < ds.length
  · refine .inr ?_
    have hd : ds[i]? = some ds[i] := List.getElem?_eq_getElem hlt
    obtain ⟨hgo, hy⟩ := okk.1 _ hd
    have edrop : ds.drop i = ds[i] :: ds.drop (i + 1) := List.drop_eq_getElem_cons hlt
    rw [edrop] at k2
    have k3 : Okx (Sx X) c W F2 (match st ds[i] e2 with
      | none => R.bad
      | some e1 => (mb e1).bind fun fl e2 => match fl with
        | .nx => forL st mb (ds.drop (i + 1)) e2
        | .ct => forL st mb (ds.drop (i + 1)) e2
        | .bk => .ok .nx e2
        | .rt d => .ok (.rt d) e2) (fun fl e' => SPost (Sx X) c F2 G fl e') := k2
    cases z : st ds[i] e2 with
    | none => rw [z] at k3; exact k3.elim
    | some e3 =>
      rw [z] at k3
      have k4 := Okx.bind k3
      refine ⟨hgo, fun σ' H' => i + 1 + (m - 1) = ds.length ∧ ∃ F2 e2, Rel (Sx X) c F2 H' σ' e2 ∧ Gr c F1 F2 ∧ Okx (Sx X) c W F2 (forL st mb (ds.drop (i + 1)) e2) fun fl e' => SPost (Sx X) c F2 G fl e',
        fun σ' H' hN => ⟨m - 1, by omega, hN⟩, fun x H' hyx => ?_⟩
      obtain ⟨F3, ext, dx⟩ := hy x H' hyx
      have g3 := r2.gr ext
      refine ⟨F3, e2, ds[i], e3, r2.ext ext, dx, z, fun σ4 F4 H4 r4 g4 _ => ⟨F4, e3, r4, Okx.gr k4 (g3.trans g4) fun fl e5 q => ?_⟩⟩
      have go : ∀ {σ' F' H'}, Rel (Sx X) c F' H' σ' e5 → Gr c F4 F' → Okx (Sx X) c W F2 (forL st mb (ds.drop (i + 1)) e5) (fun fl e' => SPost (Sx X) c F2 G fl e') →
          (i + 1 + (m - 1) = ds.length ∧ ∃ F2 e2, Rel (Sx X) c F2 H' σ' e2 ∧ Gr c F1 F2 ∧ Okx (Sx X) c W F2 (forL st mb (ds.drop (i + 1)) e2) fun fl e' => SPost (Sx X) c F2 G fl e') := fun {σ' F' H'} r' g' q =>
        ⟨by omega, F', e5, r', g2.trans (g3.trans (g4.trans g')), Okx.gr q (g3.trans (g4.trans g')) fun fl e' w => w.gr (g3.trans (g4.trans g'))⟩
      cases fl with
      | nx => exact fun σ' F' H' r' g' => go r' g' q
      | ct => exact fun σ' F' H' r' g' => go r' g' q
      | bk =>
        have q' : SPost (Sx X) c F2 G .nx e5 := q
        exact fun σ' F' H' r' g' => q' σ' F' H' r' (g3.trans (g4.trans g'))
      | rt d =>
        have q' : SPost (Sx X) c F2 G (.rt d) e5 := q
        exact fun v σ' F' H' r' g' dv => q' v σ' F' H' r' (g3.trans (g4.trans g')) dv
  · refine .inl ⟨okk.2 (Nat.le_of_not_lt hlt), ?_⟩
    rw [List.drop_of_length_le (Nat.le_of_not_lt hlt)] at k2
    have k3 : SPost (Sx X) c F2 G .nx e2 := k2
    exact k3 σ F2 H r2 Gr.refl
end
end DP
set_option Elab.async false
set_option linter.all false
set_option maxRecDepth 100000
set_option maxHeartbeats 2000000
/-! DP5: owned lists changed, list comprehensions, defs and calls. -/
namespace DP
open PySem PySem.Spec L2
open PyProof.Rows hiding St

/-! ### an owned object changed -/
theorem Rel.mut {S : Sg} {c : Bx} {F H : Hp} {σ : L2.St} {e : En} {i : Nat} {m : Bool} {d d' : D} {a : Addr} {o : HO} (r : Rel S c F H σ e) (h : e[i]? = some (.ow m d)) (hs : σ[i]? = some (some (.ref a))) (ho : Own S F (upd H a o) a d') :
    Rel S c F (upd H a o) σ (e.set i (.ow m d')) := by
  obtain ⟨a', h1, h2, h3, h4, h5⟩ := r.ow h
  rw [hs] at h1
  cases h1
  have hl : i < e.length := (List.getElem?_eq_some_iff.mp h).1
  have nb : ∀ {b u}, F b = some u → b ≠ a := fun q z => by rw [z, h2] at q; cases q
  have nB : ∀ {b u}, c.B b = some u → b ≠ a := fun q z => by rw [z, h3] at q; cases q
  refine ⟨fun b u q => by rw [upd_ne (nB q)]; exact r.bh _ _ q, fun b u q => by rw [upd_ne (nb q)]; exact r.fh _ _ q, by simp [r.len], fun {j d1} q => ?_, fun {j m1 d1} q => ?_, fun {j k m1 m2 d1 d2 b} q1 q2 p1 p2 => ?_⟩
  · have hj : i ≠ j := fun z => by subst z; rw [List.getElem?_set_self hl] at q; cases q
    rw [List.getElem?_set_ne hj] at q
    exact r.fz q
  · by_cases hj : i = j
    · subst hj
      rw [List.getElem?_set_self hl] at q
      cases q
      exact ⟨a, hs, h2, h3, ho, h5⟩
    · rw [List.getElem?_set_ne hj] at q
      obtain ⟨b, p1, p2, p3, p4, p5⟩ := r.ow q
      have nba : b ≠ a := fun z => hj (r.dis h q hs (by rw [p1, z]))
      exact ⟨b, p1, p2, p3, p4.mono (Same.refl _) fun w hw => by rw [upd_ne nba]; exact hw, p5⟩
  · have g : ∀ {l ml dl}, (e.set i (Sl.ow m d'))[l]? = some (Sl.ow ml dl) → ∃ m' d', e[l]? = some (Sl.ow m' d') := fun {l ml dl} q => by
      by_cases hl2 : i = l
      · subst hl2; exact ⟨_, _, h⟩
      · rw [List.getElem?_set_ne hl2] at q; exact ⟨_, _, q⟩
    obtain ⟨_, _, g1⟩ := g q1
    obtain ⟨_, _, g2⟩ := g q2
    exact r.dis g1 g2 p1 p2
def isLst : Option Sl → Bool
  | some (.ow _ (.lst _)) => true
  | _ => false
/-- x.append(m), x in slot i -/
def sApp (i : Nat) (m : M D) : M Fl := fun e => if isLst e[i]? = true then (m e).bind fun d e => match e[i]? with
  | some (.ow b (.lst ds)) => if ds.length < sizeLine then .ok .nx (e.set i (.ow b (.lst (ds ++ [d])))) else .bad
  | _ => .bad else .bad
theorem isLst_ok {o : Option Sl} (h : isLst o = true) : ∃ b ds, o = some (.ow b (.lst ds)) := by
  match o, h with
  | some (.ow b (.lst ds)), _ => exact ⟨b, ds, rfl⟩
section
variable {X : Cx} {a b k : Expr} {pos p cpos apos p' : Pos}
theorem pd_app (i : Nat) {x : Str} {m : M D} (h : PX X a m) (hN : X.N[i]? = some x := by rfl) (hv : Vis X.env.scope x := by first | exact Or.inl rfl | exact Or.inr (Or.inl rfl) | exact Or.inr (Or.inr rfl)) (hd : (x == ("__debug__" : Str)) = false := by decide)
    (hcd : (x == ("__classdict__" : Str)) = false := by decide)
    (hbase : attributeBase (.Name x p) ("append" : Str) X.env (eval (.Name x p) X.env) = eval (.Name x p) X.env := by rfl)
    (hfew : ((backTo cpos (starEach [a] X.env)).all (fun x => !x.1) && (backToKw cpos (keywordEach [] X.env)).all (fun x => x.1.isSome)
      && decide ([a].length + ([] : List Keyword).length + (if ([] : List Keyword).isEmpty then 0 else 1) < 30)) = true := by rfl)
    (hline : (apos.endLine == cpos.line) = true := by rfl) (hs : starEach [a] X.env = (false, eval a X.env) :: starEach [] X.env := by rfl) (hplain : (backTo cpos (starEach [] X.env)).any (·.1) = false := by rfl)
    (hsw : swapsWith (.Call (.Attribute (.Name x p) "append" apos) [a] [] cpos) none pos.line X.env = pure false := by rfl) :
    PSd X (.Expr (.Call (.Attribute (.Name x p) "append" apos) [a] [] cpos) pos) (sApp i m) := by
  refine ⟨fun c W tk pw => PS.imp (ps_expr (pe_bm PySem.F.plainAttrs_list PySem.F.slot_list_append PySem.F.type_list_append mt_append (pe_var (i := i) hN hv hd hcd) (pa_cons (h.run c W tk) pa_nil hs) hbase hfew hline hs hplain) hsw) fun G σ H ⟨F, e, r, q⟩ => ?_⟩
  unfold sApp at q
  by_cases hl : isLst e[i]? = true
  · rw [if_pos hl] at q
    obtain ⟨b, ds, z⟩ := isLst_ok hl
    obtain ⟨ad, h1, h2, h3, ⟨xs, h4, _, _⟩, h5⟩ := r.ow z
    refine ⟨_, h1, .inl ⟨rfl, _, SqL.of h4⟩, F, e, r, Okx.imp (Okx.bind q) fun d e1 k1 v F1 H1 r1 g1 dv => ?_⟩
    cases z1 : e1[i]? with
    | none => simp only [z1] at k1; exact k1.elim
    | some s =>
      simp only [z1] at k1
      match s, k1 with
      | .ow b1 (.lst es), k1 =>
        obtain ⟨ad', p1, p2, p3, ⟨ys, p4, p5, p6⟩, _⟩ := r1.ow z1
        rw [h1] at p1
        cases p1
        by_cases hz : es.length < sizeLine
        · simp only [hz, if_true] at k1
          refine ⟨ad, ys, v, rfl, rfl, p4, by rw [p5.length]; exact hz, ?_⟩
          exact k1 σ F1 _ (r1.mut z1 h1 ⟨ys ++ [v], upd_same, p5.append (Dats.one dv), by rw [List.length_append]; exact hz⟩) g1
        · simp only [hz, if_false] at k1
          exact k1.elim
  · rw [if_neg hl] at q
    exact q.elim
end
end DP
set_option Elab.async false
set_option linter.all false
set_option maxRecDepth 100000
set_option maxHeartbeats 2000000
/-! DP6: defs and calls. -/
namespace DP
open PySem PySem.Spec L2
open PyProof.Rows hiding St

/-- what a def gives: its value, what its changed arguments hold -/
inductive DR where
  | ok (d : D) (ms : List D)
  | ex (c : Str) (fs : List (Str × D)) (ms : List D)
  | bad
def slotOf (m : Bool) (d : D) : Sl := if m = true then .ow true d else .fz d
def initE (pm : List Bool) (n : Nat) (ds : List D) : En := List.zipWith slotOf pm ds ++ List.replicate (n - ds.length) .no
/-- the changed arguments at the end -/
def muts : List Bool → En → Option (List D)
  | [], _ => some []
  | false :: pm, _ :: e => muts pm e
  | true :: pm, s :: e => match s, muts pm e with
    | .ow true d, some ds => some (d :: ds)
    | _, _ => none
  | _, _ => none
def endR (pm : List Bool) : R Fl → DR
  | .ok (.rt d) e => match muts pm e with
    | some ms => .ok d ms
    | none => .bad
  | .ok .nx e => match muts pm e with
    | some ms => .ok .non ms
    | none => .bad
  | .ex c fs e => match muts pm e with
    | some ms => .ex c fs ms
    | none => .bad
  | _ => .bad
def runD (pm : List Bool) (n : Nat) (m : M Fl) (ds : List D) : DR := if ds.length = pm.length then endR pm (m (initE pm n ds)) else .bad

section
variable (S : Sg)
/-- an argument: shared data, or an object that the callee may change -/
def ArgD (F H : Hp) (v : V) : Bool → D → Prop
  | false, d => Dat S F v d
  | true, d => ∃ a, v = .ref a ∧ F a = none ∧ Own S F H a d
inductive ArgsD (F H : Hp) : List Bool → List V → List D → Prop
  | nil : ArgsD F H [] [] []
  | cons {m : Bool} {v : V} {d : D} {pm : List Bool} {vs : List V} {ds : List D} : ArgD S F H v m d → ArgsD F H pm vs ds → ArgsD F H (m :: pm) (v :: vs) (d :: ds)
/-- where the arguments stand that the callee may change -/
def mAdr : List Bool → List V → List Addr
  | true :: pm, .ref a :: vs => a :: mAdr pm vs
  | _ :: pm, _ :: vs => mAdr pm vs
  | _, _ => []
inductive MutsD (F H : Hp) : List Bool → List V → List D → Prop
  | nil : MutsD F H [] [] []
  | keep {v : V} {pm : List Bool} {vs : List V} {ms : List D} : MutsD F H pm vs ms → MutsD F H (false :: pm) (v :: vs) ms
  | chg {a : Addr} {d : D} {pm : List Bool} {vs : List V} {ms : List D} : F a = none → Own S F H a d → MutsD F H pm vs ms → MutsD F H (true :: pm) (.ref a :: vs) (d :: ms)
structure Fin (F H : Hp) (pm : List Bool) (vs : List V) (ms : List D) (F' H' : Hp) : Prop where
  ff : Same F F'
  fh : Same F' H'
  nw : ∀ a, F a = none → F' a ≠ none → H a = none
  hh : ∀ a o, H a = some o → a ∉ mAdr pm vs → H' a = some o
  mu : MutsD S F' H' pm vs ms
def spD (pm : List Bool) (den : List D → DR) : Sp := fun vs H Q E => ∃ F ds, Same F H ∧ ArgsD S F H pm vs ds ∧ (mAdr pm vs).Nodup ∧ match den ds with
  | .ok d ms => ∀ v F' H', Fin S F H pm vs ms F' H' → Dat S F' v d → Q v H'
  | .ex c fs ms => ∀ cls dd F' H', Fin S F H pm vs ms F' H' → ExD S F' H' cls dd c fs → E cls dd H'
  | .bad => False
end

/-! ### the entry -/
section
variable {S : Sg}
theorem ArgsD.len {F H : Hp} : ∀ {pm : List Bool} {vs : List V} {ds : List D}, ArgsD S F H pm vs ds → pm.length = vs.length ∧ vs.length = ds.length
  | _, _, _, .nil => ⟨rfl, rfl⟩
  | _, _, _, .cons _ t => ⟨congrArg (· + 1) (ArgsD.len t).1, congrArg (· + 1) (ArgsD.len t).2⟩
theorem ArgsD.at {F H : Hp} : ∀ {pm : List Bool} {vs : List V} {ds : List D} {i : Nat} {s : Sl}, ArgsD S F H pm vs ds → (List.zipWith slotOf pm ds)[i]? = some s → ∃ m v d, pm[i]? = some m ∧ vs[i]? = some v ∧ s = slotOf m d ∧ ArgD S F H v m d
  | _, _, _, i, s, .nil, h => by simp at h
  | _, _, _, 0, s, .cons h t, e => by
    simp at e
    exact ⟨_, _, _, rfl, rfl, e.symm, h⟩
  | _, _, _, i + 1, s, .cons h t, e => by
    obtain ⟨m, v, d, h1, h2, h3, h4⟩ := ArgsD.at (i := i) (s := s) t (by simpa using e)
    exact ⟨m, v, d, by simpa using h1, by simpa using h2, h3, h4⟩
theorem mAdr_mem {F H : Hp} : ∀ {pm : List Bool} {vs : List V} {i : Nat} {a : Addr}, pm[i]? = some true → vs[i]? = some (.ref a) → a ∈ mAdr pm vs
  | [], _, _, _, h, _ => by simp at h
  | _ :: _, [], _, _, _, h => by simp at h
  | true :: pm, v :: vs, 0, a, h, e => by
    have e' : v = .ref a := by simpa using e
    subst e'
    exact List.mem_cons_self
  | false :: pm, v :: vs, 0, a, h, e => by simp at h
  | true :: pm, v :: vs, i + 1, a, h, e => by
    have q := mAdr_mem (F := F) (H := H) (pm := pm) (vs := vs) (i := i) (a := a) (by simpa using h) (by simpa using e)
    cases v with
    | ref b => exact List.mem_cons_of_mem _ q
    | _ => exact q
  | false :: pm, v :: vs, i + 1, a, h, e => mAdr_mem (F := F) (H := H) (pm := pm) (vs := vs) (i := i) (a := a) (by simpa using h) (by simpa using e)
theorem mAdr_inj : ∀ {pm : List Bool} {vs : List V} {i j : Nat} {a : Addr}, (mAdr pm vs).Nodup → pm[i]? = some true → vs[i]? = some (.ref a) → pm[j]? = some true → vs[j]? = some (.ref a) → i = j
  | [], _, _, _, _, _, h, _, _, _ => by simp at h
  | _ :: _, [], _, _, _, _, _, h, _, _ => by simp at h
  | m :: pm, v :: vs, 0, 0, a, _, _, _, _, _ => rfl
  | m :: pm, v :: vs, 0, j + 1, a, nd, h1, e1, h2, e2 => by
    have hm : m = true := by simpa using h1
    have hv : v = .ref a := by simpa using e1
    subst hm hv
    have nd' : (a :: mAdr pm vs).Nodup := nd
    exact absurd (mAdr_mem (F := fun _ => none) (H := fun _ => none) (i := j) (by simpa using h2) (by simpa using e2)) (List.nodup_cons.mp nd').1
  | m :: pm, v :: vs, i + 1, 0, a, nd, h1, e1, h2, e2 => by
    have hm : m = true := by simpa using h2
    have hv : v = .ref a := by simpa using e2
    subst hm hv
    have nd' : (a :: mAdr pm vs).Nodup := nd
    exact absurd (mAdr_mem (F := fun _ => none) (H := fun _ => none) (i := i) (by simpa using h1) (by simpa using e1)) (List.nodup_cons.mp nd').1
  | m :: pm, v :: vs, i + 1, j + 1, a, nd, h1, e1, h2, e2 => by
    have nd' : (mAdr pm vs).Nodup := by
      cases m with
      | false => exact nd
      | true =>
        cases v with
        | ref b => exact (List.nodup_cons.mp (show (b :: mAdr pm vs).Nodup from nd)).2
        | _ => exact nd
    exact congrArg (· + 1) (mAdr_inj nd' (by simpa using h1) (by simpa using e1) (by simpa using h2) (by simpa using e2))
/-- the heap without the addresses of l -/
def cut (H : Hp) (l : List Addr) : Hp := fun a => if a ∈ l then none else H a
theorem cut_in {H : Hp} {l : List Addr} {a : Addr} (h : a ∈ l) : cut H l a = none := by unfold cut; rw [if_pos h]
theorem cut_out {H : Hp} {l : List Addr} {a : Addr} (h : a ∉ l) : cut H l a = H a := by unfold cut; rw [if_neg h]
theorem same_cut {H : Hp} {l : List Addr} : Same (cut H l) H := fun a o e => by
  by_cases h : a ∈ l
  · rw [cut_in h] at e; cases e
  · rw [cut_out h] at e; exact e
/-- the frame of reference of a def -/
def bxOf (H : Hp) (pm : List Bool) (vs : List V) : Bx := ⟨cut H (mAdr pm vs), fun i => match vs[i]? with
  | some (.ref a) => a
  | _ => 0⟩
theorem getElem_init {pm : List Bool} {n : Nat} {ds : List D} {i : Nat} {s : Sl} (hl : pm.length = ds.length) (h : (initE pm n ds)[i]? = some s) : (i < ds.length ∧ (List.zipWith slotOf pm ds)[i]? = some s) ∨ s = .no := by
  unfold initE at h
  have hz : (List.zipWith slotOf pm ds).length = ds.length := by rw [List.length_zipWith, hl, Nat.min_self]
  by_cases hi : i < ds.length
  · rw [List.getElem?_append_left (by rw [hz]; exact hi)] at h
    exact .inl ⟨hi, h⟩
  · rw [List.getElem?_append_right (by rw [hz]; omega)] at h
    exact .inr (List.eq_of_mem_replicate (List.mem_of_getElem? h))
theorem rel_init {F H : Hp} {N : List Str} {pm : List Bool} {vs : List V} {ds : List D} (fh : Same F H) (A : ArgsD S F H pm vs ds) (nd : (mAdr pm vs).Nodup) (hn : ds.length ≤ N.length) :
    Rel S (bxOf H pm vs) F H (L2.start N vs) (initE pm N.length ds) := by
  obtain ⟨l1, l2⟩ := A.len
  have hst : ∀ {i : Nat} {v : V}, vs[i]? = some v → (L2.start N vs)[i]? = some (some v) := fun {i v} h => by
    have hi := (List.getElem?_eq_some_iff.mp h).1
    unfold L2.start
    rw [List.getElem?_append_left (by rw [List.length_map]; exact hi), List.getElem?_map, h]
    rfl
  refine ⟨same_cut, fh, ?_, fun {i d} h => ?_, fun {i m d} h => ?_, fun {i j m m' d d' a} h1 h2 p1 p2 => ?_⟩
  · unfold L2.start initE
    rw [List.length_append, List.length_append, List.length_map, List.length_zipWith, List.length_replicate, List.length_replicate, l1, l2, Nat.min_self]
  · rcases getElem_init (l1.trans l2) h with ⟨hi, h⟩ | h
    · obtain ⟨m, v, d', h1, h2, h3, h4⟩ := A.at h
      cases m with
      | true => cases h3
      | false =>
        cases h3
        exact ⟨v, hst h2, h4⟩
    · cases h
  · rcases getElem_init (l1.trans l2) h with ⟨hi, h⟩ | h
    · obtain ⟨m', v, d', h1, h2, h3, h4⟩ := A.at h
      cases m' with
      | false => cases h3
      | true =>
        cases h3
        obtain ⟨a, rfl, h5, h6⟩ := h4
        refine ⟨a, hst h2, h5, cut_in (mAdr_mem (F := F) (H := H) h1 h2), h6, fun _ => ?_⟩
        show a = (match vs[i]? with
          | some (.ref a) => a
          | _ => 0)
        rw [h2]
    · cases h
  · have g : ∀ {i m d}, (initE pm N.length ds)[i]? = some (Sl.ow m d) → (L2.start N vs)[i]? = some (some (V.ref a)) → pm[i]? = some true ∧ vs[i]? = some (V.ref a) := fun {i m d} h p => by
      rcases getElem_init (l1.trans l2) h with ⟨hi, h⟩ | h
      · obtain ⟨m', v, d', q1, q2, q3, q4⟩ := A.at h
        cases m' with
        | false => cases q3
        | true =>
          have := hst q2
          rw [this] at p
          cases p
          exact ⟨q1, q2⟩
      · cases h
    obtain ⟨a1, a2⟩ := g h1 p1
    obtain ⟨b1, b2⟩ := g h2 p2
    exact mAdr_inj nd a1 a2 b1 b2
theorem muts_ok {c : Bx} {F H : Hp} : ∀ {pm : List Bool} {vs : List V} {e : En} {ms : List D} (k : Nat),
    (∀ {i : Nat} {d : D}, e[i]? = some (.ow true d) → ∃ a, F a = none ∧ Own S F H a d ∧ a = c.ma (k + i)) → (∀ i, pm[i]? = some true → vs[i]? = some (V.ref (c.ma (k + i)))) → pm.length = vs.length → muts pm e = some ms → MutsD S F H pm vs ms
  | [], [], e, ms, k, _, _, _, h => by
    have h' : some [] = some ms := h
    cases h'
    exact .nil
  | false :: pm, v :: vs, [], ms, k, _, _, _, h => by cases h
  | false :: pm, v :: vs, s :: e, ms, k, ok, hv, hl, h => .keep (muts_ok (k + 1) (fun {i d} q => by
      obtain ⟨a, h1, h2, h3⟩ := ok (i := i + 1) (d := d) (by simpa using q)
      exact ⟨a, h1, h2, by rw [h3]; congr 1; omega⟩) (fun i q => by
      have := hv (i + 1) (by simpa using q)
      rw [show k + (i + 1) = k + 1 + i by omega] at this
      simpa using this) (by simpa using hl) h)
  | true :: pm, v :: vs, [], ms, k, _, _, _, h => by cases h
  | true :: pm, v :: vs, s :: e, ms, k, ok, hv, hl, h => by
    unfold muts at h
    cases z : muts pm e with
    | none =>
      rw [z] at h
      cases s with
      | ow m d => cases m <;> cases h
      | _ => cases h
    | some ds =>
      rw [z] at h
      cases s with
      | ow m d =>
        cases m with
        | false => cases h
        | true =>
          cases h
          obtain ⟨a, h1, h2, h3⟩ := ok (i := 0) (d := d) rfl
          have hv0 := hv 0 rfl
          have ev : v = .ref (c.ma (k + 0)) := by simpa using hv0
          subst ev
          subst h3
          exact .chg h1 h2 (muts_ok (k + 1) (fun {i d} q => by
            obtain ⟨a, h1, h2, h3⟩ := ok (i := i + 1) (d := d) (by simpa using q)
            exact ⟨a, h1, h2, by rw [h3]; congr 1; omega⟩) (fun i q => by
            have := hv (i + 1) (by simpa using q)
            rw [show k + (i + 1) = k + 1 + i by omega] at this
            simpa using this) (by simpa using hl) z)
      | _ => cases h
  | [], _ :: _, _, _, _, _, _, h, _ => by cases h
  | _ :: _, [], _, _, _, _, _, h, _ => by cases h
theorem fin_of {F F' H H' : Hp} {pm : List Bool} {vs : List V} {ds ms : List D} {σ : L2.St} {e : En} (A : ArgsD S F H pm vs ds) (r : Rel S (bxOf H pm vs) F' H' σ e) (g : Gr (bxOf H pm vs) F F') (hm : muts pm e = some ms) : Fin S F H pm vs ms F' H' := by
  obtain ⟨l1, l2⟩ := A.len
  have mm : MutsD S F' H' pm vs ms := by
    refine muts_ok (c := bxOf H pm vs) 0 (fun {i d} q => ?_) (fun i q => ?_) l1 hm
    · obtain ⟨a, h1, h2, h3, h4, h5⟩ := r.ow q
      exact ⟨a, h2, h4, by rw [Nat.zero_add]; exact h5 rfl⟩
    · have hi : i < vs.length := by rw [← l1]; exact (List.getElem?_eq_some_iff.mp q).1
      have hz : i < (List.zipWith slotOf pm ds).length := by rw [List.length_zipWith, l1, l2, Nat.min_self, ← l2]; exact hi
      obtain ⟨m, v, d, h1, h2, h3, h4⟩ := A.at (List.getElem?_eq_getElem hz)
      rw [q] at h1
      cases h1
      obtain ⟨a, rfl, _, _⟩ := h4
      rw [h2, Nat.zero_add]
      show some (V.ref a) = some (V.ref (match vs[i]? with
        | some (.ref a) => a
        | _ => 0))
      rw [h2]
  refine ⟨g.1, r.fh, fun a h n => ?_, fun a o h n => r.bh a o (by show cut H (mAdr pm vs) a = some o; rw [cut_out n]; exact h), mm⟩
  have hb : cut H (mAdr pm vs) a = none := g.2 a h n
  by_cases hin : a ∈ mAdr pm vs
  · -- a changed argument is not shared
    exfalso
    clear hb hm
    have key : ∀ {pm : List Bool} {vs : List V} {ms : List D}, MutsD S F' H' pm vs ms → a ∈ mAdr pm vs → F' a = none := fun {pm vs ms} M => by
      induction M with
      | nil => intro h; cases h
      | keep _ ih => exact fun h => ih h
      | chg h1 h2 _ ih =>
        intro h
        rcases List.mem_cons.mp h with q | q
        · rw [q]; exact h1
        · exact ih q
    exact n (key mm hin)
  · rw [cut_out hin] at hb
    exact hb
end
/-- THE RULE for a def -/
theorem fn_D {P : Program} {w : World} {K : PySem.W.Frag} {mg : Str → Option Value} {base : Heap} {k : Nat} {f : Addr} {fd : FuncData} {x qual : Str} {st : Stmt} {N ps : List Str} {pm : List Bool} {m : M Fl}
    (F : Fun K x qual st f fd) (Sc : FnScope N ps (defScope st)) (hp : ps.length = pm.length) (hN : pm.length ≤ N.length)
    (body : ∀ (cdv : Value) (A : Around) (outer : List Env) (s : Shared) (H : Hp) (E : XK), Room k (A.deeper (envOfC qual (defScope st) s.heap.objs.size f cdv)) →
      PSds (cxOf (L2.CX P w) P w K mg base N qual (defScope st) f cdv A outer s H E) (defBody st) m) :
    FnOk P w K mg base (L2.CX P w) (k + 1) f fd ps (spD (sgOf K mg) pm (runD pm N.length m)) := by
  refine F.okX Sc (fun vs H Q E h => ?_) (fun cdv A outer s H vs Q E hr h => ?_)
  · obtain ⟨F, ds, _, A, _⟩ := h
    rw [hp]
    exact A.len.1.symm
  · obtain ⟨F0, ds, fh, AD, nd, q⟩ := h
    obtain ⟨l1, l2⟩ := AD.len
    have hl : ds.length = pm.length := (l1.trans l2).symm
    have q2 : match endR pm (m (initE pm N.length ds)) with
      | .ok d ms => ∀ v F' H', Fin (sgOf K mg) F0 H pm vs ms F' H' → Dat (sgOf K mg) F' v d → Q v H'
      | .ex c fs ms => ∀ cls dd F' H', Fin (sgOf K mg) F0 H pm vs ms F' H' → ExD (sgOf K mg) F' H' cls dd c fs → E cls dd H'
      | .bad => False := by
      unfold runD at q
      rw [if_pos hl] at q
      exact q
    refine ⟨_, (body cdv A outer s H E hr).run (bxOf H pm vs) (fun cls d _ H => E cls d H) (takes_of rfl rfl rfl rfl) (passes_of rfl), F0, initE pm N.length ds, rel_init fh AD nd (by rw [hl]; exact hN), ?_⟩
    cases z : m (initE pm N.length ds) with
    | bad =>
      rw [z] at q2
      exact q2
    | ex n fs e =>
      rw [z] at q2
      have q3 : match (match muts pm e with
          | some ms => DR.ex n fs ms
          | none => DR.bad) with
        | .ok d ms => ∀ v F' H', Fin (sgOf K mg) F0 H pm vs ms F' H' → Dat (sgOf K mg) F' v d → Q v H'
        | .ex c fs ms => ∀ cls dd F' H', Fin (sgOf K mg) F0 H pm vs ms F' H' → ExD (sgOf K mg) F' H' cls dd c fs → E cls dd H'
        | .bad => False := q2
      cases hm : muts pm e with
      | none => rw [hm] at q3; exact q3.elim
      | some ms =>
        rw [hm] at q3
        exact fun cls dd σ' F' H' r g xd => q3 cls dd F' H' (fin_of AD r g hm) xd
    | ok fl e =>
      rw [z] at q2
      have fin : ∀ {d : D}, (match (match muts pm e with
          | some ms => DR.ok d ms
          | none => DR.bad) with
        | .ok d ms => ∀ v F' H', Fin (sgOf K mg) F0 H pm vs ms F' H' → Dat (sgOf K mg) F' v d → Q v H'
        | .ex c fs ms => ∀ cls dd F' H', Fin (sgOf K mg) F0 H pm vs ms F' H' → ExD (sgOf K mg) F' H' cls dd c fs → E cls dd H'
        | .bad => False) → ∀ v σ' F' H', Rel (sgOf K mg) (bxOf H pm vs) F' H' σ' e → Gr (bxOf H pm vs) F0 F' → Dat (sgOf K mg) F' v d → Q v H' := fun {d} q3 => by
        cases hm : muts pm e with
        | none => rw [hm] at q3; exact q3.elim
        | some ms =>
          rw [hm] at q3
          exact fun v σ' F' H' r g dv => q3 v F' H' (fin_of AD r g hm) dv
      cases fl with
      | rt d => exact fin (d := d) q2
      | nx => exact fun σ' F' H' r g => fin (d := .non) q2 .non σ' F' H' r g .non
      | bk => exact q2.elim
      | ct => exact q2.elim
end DP
set_option Elab.async false
set_option linter.all false
set_option maxRecDepth 100000
set_option maxHeartbeats 2000000
/-! DP7: calls of defs, list comprehensions. -/
namespace DP
open PySem PySem.Spec L2
open PyProof.Rows hiding St

/-- a def of the module's top -/
def DefOk (P : Program) (w : World) (K : PySem.W.Frag) (mg : Str → Option Value) (base : Heap) (k : Nat) (x : Str) (pm : List Bool) (den : List D → DR) : Prop :=
  ∃ f fd ps, mg x = some (.ref f) ∧ PySem.W.keepIn K (.ref f) = true ∧ Binds K fd ps [] ∧ FnOk P w K mg base (L2.CX P w) k f fd ps (spD (sgOf K mg) pm den)

def argsOf (e : En) : List Bool → List Op → Option (List D)
  | [], [] => some []
  | false :: pm, .va d :: os => match argsOf e pm os with
    | some ds => some (d :: ds)
    | none => none
  | true :: pm, .pl i :: os => match e[i]?, argsOf e pm os with
    | some (.ow _ d), some ds => some (d :: ds)
    | _, _ => none
  | _, _ => none
def mIx : List Bool → List Op → List Nat
  | true :: pm, .pl i :: os => i :: mIx pm os
  | _ :: pm, _ :: os => mIx pm os
  | _, _ => []
def setOw (i : Nat) (d : D) (e : En) : En := match e[i]? with
  | some (.ow m _) => e.set i (.ow m d)
  | _ => e
def wback : List Bool → List Op → List D → En → En
  | true :: pm, .pl i :: os, d :: ms, e => wback pm os ms (setOw i d e)
  | _ :: pm, _ :: os, ms, e => wback pm os ms e
  | _, _, _, e => e
def eCall (pm : List Bool) (den : List D → DR) (m : M (List Op)) : M D := fun e => (m e).bind fun os e => match argsOf e pm os with
  | some ds => if (mIx pm os).Nodup then match den ds with
      | .ok d ms => .ok d (wback pm os ms e)
      | .ex c fs ms => .ex c fs (wback pm os ms e)
      | .bad => .bad
    else .bad
  | none => .bad

section
variable {S : Sg} {c : Bx} {F H F' H' : Hp} {σ : L2.St} {e : En}
theorem setOw_len (i : Nat) (d : D) (e : En) : (setOw i d e).length = e.length := by
  unfold setOw
  split <;> simp
theorem setOw_get {i j : Nat} {d : D} {e : En} {s : Sl} (h : (setOw i d e)[j]? = some s) : (i = j ∧ ∃ m d', e[i]? = some (.ow m d') ∧ s = .ow m d) ∨ ((i ≠ j ∨ ∀ m d', e[i]? ≠ some (.ow m d')) ∧ e[j]? = some s) := by
  unfold setOw at h
  cases z : e[i]? with
  | none =>
    simp only [z] at h
    exact .inr ⟨.inr (fun _ _ q => by cases q), h⟩
  | some s' =>
    simp only [z] at h
    cases s' with
    | ow m d' =>
      by_cases hj : i = j
      · subst hj
        have hl : i < e.length := (List.getElem?_eq_some_iff.mp z).1
        rw [List.getElem?_set_self hl] at h
        cases h
        exact .inl ⟨rfl, m, d', rfl, rfl⟩
      · rw [List.getElem?_set_ne hj] at h
        exact .inr ⟨.inl hj, h⟩
    | _ => exact .inr ⟨.inr (fun _ _ q => by cases q), h⟩
/-- the arguments fit: shared ones are data, changed ones are slots that own -/
inductive Plc (e : En) : List Bool → List Op → List D → Prop
  | nil : Plc e [] [] []
  | sh {d : D} {pm : List Bool} {os : List Op} {ds : List D} : Plc e pm os ds → Plc e (false :: pm) (.va d :: os) (d :: ds)
  | mu {i : Nat} {m : Bool} {d : D} {pm : List Bool} {os : List Op} {ds : List D} : e[i]? = some (.ow m d) → Plc e pm os ds → Plc e (true :: pm) (.pl i :: os) (d :: ds)
theorem plc_of : ∀ {pm : List Bool} {os : List Op} {ds : List D}, argsOf e pm os = some ds → Plc e pm os ds
  | [], [], ds, h => by
    have h' : some [] = some ds := h
    cases h'
    exact .nil
  | false :: pm, .va d :: os, ds, h => by
    unfold argsOf at h
    cases z : argsOf e pm os with
    | none => rw [z] at h; cases h
    | some ds' =>
      rw [z] at h
      cases h
      exact .sh (plc_of z)
  | true :: pm, .pl i :: os, ds, h => by
    unfold argsOf at h
    cases z1 : e[i]? with
    | none => rw [z1] at h; cases h
    | some s =>
      cases z : argsOf e pm os with
      | none =>
        rw [z1, z] at h
        cases s <;> cases h
      | some ds' =>
        rw [z1, z] at h
        cases s with
        | ow m d =>
          cases h
          exact .mu z1 (plc_of z)
        | _ => cases h
  | [], _ :: _, _, h => by unfold argsOf at h; cases h
  | false :: pm, [], _, h => by unfold argsOf at h; cases h
  | true :: pm, [], _, h => by unfold argsOf at h; cases h
  | false :: pm, .pl i :: os, _, h => by unfold argsOf at h; cases h
  | true :: pm, .va d :: os, _, h => by unfold argsOf at h; cases h
theorem wback_get {e0 : En} {pm : List Bool} {os : List Op} {ds0 : List D} (P : Plc e0 pm os ds0) : ∀ {vs : List V} {ms : List D} {e : En}, Paired (fun v o => OpD S F σ v o) vs os → MutsD S F' H' pm vs ms → (wback pm os ms e).length = e.length ∧ ∀ {j : Nat} {s : Sl}, (wback pm os ms e)[j]? = some s →
    (∃ m d d' a, e[j]? = some (.ow m d) ∧ s = .ow m d' ∧ σ[j]? = some (some (V.ref a)) ∧ a ∈ mAdr pm vs ∧ F' a = none ∧ Own S F' H' a d') ∨ (e[j]? = some s ∧ ∀ m d, s = .ow m d → j ∉ mIx pm os) := by
  induction P with
  | nil =>
    intro vs ms e po mo
    cases po
    cases mo
    exact ⟨rfl, fun {j s} h => .inr ⟨h, fun _ _ _ q => by cases q⟩⟩
  | sh _ ih =>
    intro vs ms e po mo
    cases po with
    | cons ho ht =>
      cases mo with
      | keep mt =>
        obtain ⟨l, q⟩ := ih (e := e) ht mt
        refine ⟨l, fun {j s} h => ?_⟩
        rcases q h with ⟨m, d, d', a, h1, h2, h3, h4, h5, h6⟩ | ⟨h1, h2⟩
        · refine .inl ⟨m, d, d', a, h1, h2, h3, ?_, h5, h6⟩
          exact h4
        · exact .inr ⟨h1, h2⟩
  | @mu i mm dd pm os ds hi _ ih =>
    intro vs ms e po mo
    cases po with
    | cons ho ht =>
      cases mo with
      | @chg a d _ vs ms h1 h2 mt =>
        obtain ⟨l, q⟩ := ih (e := setOw i d e) ht mt
        have ho' : σ[i]? = some (some (V.ref a)) := ho
        refine ⟨l.trans (setOw_len _ _ _), fun {j s} h => ?_⟩
        rcases q h with ⟨m, d1, d', b, q1, q2, q3, q4, q5, q6⟩ | ⟨q1, q2⟩
        · rcases setOw_get q1 with ⟨rfl, m', d2, p1, p2⟩ | ⟨p1, p2⟩
          · cases p2
            exact .inl ⟨_, _, d', b, p1, q2, q3, List.mem_cons_of_mem _ q4, q5, q6⟩
          · exact .inl ⟨m, d1, d', b, p2, q2, q3, List.mem_cons_of_mem _ q4, q5, q6⟩
        · rcases setOw_get q1 with ⟨rfl, m', d2, p1, p2⟩ | ⟨p1, p2⟩
          · exact .inl ⟨m', d2, d, a, p1, p2, ho', List.mem_cons_self, h1, h2⟩
          · refine .inr ⟨p2, fun m d' hs hm => ?_⟩
            rcases List.mem_cons.mp hm with z | z
            · subst z
              subst hs
              rcases p1 with p1 | p1
              · exact p1 rfl
              · exact p1 _ _ p2
            · exact q2 m d' hs z
theorem adr_ix {pm : List Bool} {os : List Op} {ds : List D} (P : Plc e pm os ds) (r : Rel S c F H σ e) : ∀ {vs : List V}, Paired (fun v o => OpD S F σ v o) vs os →
    ArgsD S F H pm vs ds ∧ (∀ a ∈ mAdr pm vs, ∃ i m d, i ∈ mIx pm os ∧ e[i]? = some (.ow m d) ∧ σ[i]? = some (some (V.ref a))) ∧ ((mIx pm os).Nodup → (mAdr pm vs).Nodup) := by
  induction P with
  | nil =>
    intro vs po
    cases po
    exact ⟨.nil, (fun a h => by cases h), fun _ => List.nodup_nil⟩
  | sh _ ih =>
    intro vs po
    cases po with
    | cons ho ht =>
      obtain ⟨h1, h2, h3⟩ := ih ht
      exact ⟨.cons ho h1, h2, h3⟩
  | @mu i mm dd pm os ds hi _ ih =>
    intro vs po
    cases po with
    | @cons v _ vs _ ho ht =>
      obtain ⟨h1, h2, h3⟩ := ih ht
      obtain ⟨a, p1, p2, p3, p4, _⟩ := r.ow hi
      have ho' : σ[i]? = some (some v) := ho
      rw [p1] at ho'
      cases ho'
      refine ⟨.cons ⟨a, rfl, p2, p4⟩ h1, fun b hb => ?_, fun nd => ?_⟩
      · rcases List.mem_cons.mp hb with z | z
        · subst z
          exact ⟨i, mm, dd, List.mem_cons_self, hi, p1⟩
        · obtain ⟨j, m, d, q1, q2, q3⟩ := h2 b z
          exact ⟨j, m, d, List.mem_cons_of_mem _ q1, q2, q3⟩
      · have nd' : (i :: mIx pm os).Nodup := nd
        obtain ⟨n1, n2⟩ := List.nodup_cons.mp nd'
        refine List.nodup_cons.mpr ⟨fun hm => ?_, h3 n2⟩
        obtain ⟨j, m, d, q1, q2, q3⟩ := h2 a hm
        exact n1 (by rw [r.dis hi q2 p1 q3]; exact q1)
theorem rel_call {pm : List Bool} {os : List Op} {ds ms : List D} {vs : List V} (r : Rel S c F H σ e) (P : Plc e pm os ds) (po : Paired (fun v o => OpD S F σ v o) vs os) (nd : (mIx pm os).Nodup) (fi : Fin S F H pm vs ms F' H') :
    Rel S c F' H' σ (wback pm os ms e) ∧ Gr c F F' := by
  obtain ⟨A, ad, ndA⟩ := adr_ix P r po
  obtain ⟨l, gt⟩ := wback_get P (e := e) po fi.mu
  have nB : ∀ {a o}, c.B a = some o → a ∉ mAdr pm vs := fun {a o} q hm => by
    obtain ⟨i, m, d, q1, q2, q3⟩ := ad a hm
    obtain ⟨b, p1, p2, p3, _⟩ := r.ow q2
    rw [q3] at p1
    cases p1
    rw [q] at p3
    cases p3
  refine ⟨⟨fun a o q => fi.hh a o (r.bh a o q) (nB q), fi.fh, by rw [l]; exact r.len, fun {i d} h => ?_, fun {i m d} h => ?_, fun {i j m m' d d' a} h1 h2 p1 p2 => ?_⟩, fi.ff, fun a h n => ?_⟩
  · rcases gt h with ⟨m, d1, d', a, _, h2, _⟩ | ⟨h1, _⟩
    · cases h2
    · obtain ⟨v, q1, q2⟩ := r.fz h1
      exact ⟨v, q1, q2.mono fi.ff⟩
  · rcases gt h with ⟨m1, d1, d', a, h1, h2, h3, h4, h5, h6⟩ | ⟨h1, h2⟩
    · cases h2
      obtain ⟨b, p1, p2, p3, p4, p5⟩ := r.ow h1
      rw [h3] at p1
      cases p1
      exact ⟨a, h3, h5, p3, h6, p5⟩
    · obtain ⟨a, p1, p2, p3, p4, p5⟩ := r.ow h1
      have na : a ∉ mAdr pm vs := fun hm => by
        obtain ⟨j, m', d', q1, q2, q3⟩ := ad a hm
        have e1 := r.dis h1 q2 p1 q3
        exact h2 _ _ rfl (by rw [e1]; exact q1)
      refine ⟨a, p1, ?_, p3, p4.mono fi.ff fun o ho => fi.hh a o ho na, p5⟩
      cases z : F' a with
      | none => rfl
      | some o =>
        obtain ⟨u, hu⟩ := p4.there
        have := fi.nw a p2 (by rw [z]; exact fun w => by cases w)
        rw [hu] at this
        cases this
  · have g : ∀ {i m d}, (wback pm os ms e)[i]? = some (Sl.ow m d) → ∃ m' d', e[i]? = some (Sl.ow m' d') := fun {i m d} h => by
      rcases gt h with ⟨m1, d1, d', a, h1, h2, _⟩ | ⟨h1, _⟩
      · exact ⟨_, _, h1⟩
      · exact ⟨_, _, h1⟩
    obtain ⟨_, _, g1⟩ := g h1
    obtain ⟨_, _, g2⟩ := g h2
    exact r.dis g1 g2 p1 p2
  · have z := fi.nw a h n
    cases q : c.B a with
    | none => rfl
    | some o => rw [r.bh _ _ q] at z; cases z
end

section
variable {X : Cx} {e : Expr} {es : List Expr} {x : Str} {p pos : Pos}
theorem px_call {k : Nat} {pm : List Bool} {den : List D → DR} {m : M (List Op)} (G : DefOk X.prog X.w X.K X.mg X.base k x pm den) (hr : Room k X.A) (ha : PAr X (e :: es) m) (hg : Gl X x := by rfl) (hdb : (x == ("__debug__" : Str)) = false := by decide)
    (he : starEach (e :: es) X.env = (false, eval e X.env) :: starEach es X.env := by rfl) (hpl : (backTo pos (starEach es X.env)).any (·.1) = false := by rfl) : PX X (.Call (.Name x p) (e :: es) [] pos) (eCall pm den m) := by
  obtain ⟨f, fd, ps, hm, hk, hb, F⟩ := G
  refine ⟨fun c W tk => PE.imp (pe_callS F hr hg hm hk hb (fun σ => passAt tk σ) (ha.run c W tk) hdb he hpl) fun σ H Q ⟨F0, e0, r, q⟩ => ⟨F0, e0, r, ?_⟩⟩
  refine Okx.imp (Okx.bind q) fun os e1 k1 vs F1 H1 r1 g1 po => ?_
  cases z : argsOf e1 pm os with
  | none => simp only [z] at k1; exact k1.elim
  | some ds =>
    simp only [z] at k1
    by_cases nd : (mIx pm os).Nodup
    · rw [if_pos nd] at k1
      have P := plc_of z
      obtain ⟨A, _, ndA⟩ := adr_ix P r1 po
      refine ⟨F1, ds, r1.fh, A, ndA nd, ?_⟩
      cases zd : den ds with
      | bad => simp only [zd] at k1; exact k1.elim
      | ok d ms =>
        simp only [zd] at k1
        intro v F' H' fi dv
        obtain ⟨r2, g2⟩ := rel_call r1 P po nd fi
        exact k1 v F' H' r2 (g1.trans g2) dv
      | ex n fs ms =>
        simp only [zd] at k1
        intro cls dd F' H' fi xd
        obtain ⟨r2, g2⟩ := rel_call r1 P po nd fi
        exact k1 cls dd σ F' H' r2 (g1.trans g2) xd
    · rw [if_neg nd] at k1
      exact k1.elim
end
end DP
set_option Elab.async false
set_option linter.all false
set_option maxRecDepth 100000
set_option maxHeartbeats 2000000
/-! DP8: list comprehensions. -/
namespace DP
open PySem PySem.Spec L2
open PyProof.Rows hiding St

def wipeE (e : En) : List Nat → En
  | [] => e
  | v :: vs => (wipeE e vs).set v .no
def restore (e0 e : En) : List Nat → En
  | [] => e
  | v :: vs => match e0[v]? with
    | some s => (restore e0 e vs).set v s
    | none => restore e0 e vs
def noOw (e : En) (vs : List Nat) : Bool := vs.all fun v => match e[v]? with
  | some (.ow _ _) => false
  | _ => true
def lcL (vs : List Nat) (st : D → En → Option En) (cond : M Bool) (elt : M D) : List D → M (List D)
  | [] => fun e => .ok [] e
  | d :: ds => fun e => match st d (wipeE e vs) with
    | none => .bad
    | some e1 => match cond e1 with
      | .ok true e2 => (match elt e2 with
        | .ok y e3 => (match lcL vs st cond elt ds (restore e e3 vs) with
          | .ok ys e4 => .ok (y :: ys) e4
          | _ => .bad)
        | _ => .bad)
      | .ok false e2 => lcL vs st cond elt ds (restore e e2 vs)
      | _ => .bad
def nLc (m : M (List D)) (vs : List Nat) (st : D → En → Option En) (cond : M Bool) (elt : M D) : M D := fun e => (m e).bind fun ds e => if noOw e vs = true ∧ ds.length ≤ sizeLine then (match lcL vs st cond elt ds e with
  | .ok ys e' => .ok (.lst ys) e'
  | _ => .bad) else .bad
def bYes : M Bool := fun e => .ok true e

theorem wipe_get {σ : L2.St} {j : Nat} : ∀ {vs : List Nat}, j ∉ vs → (wipe σ vs)[j]? = σ[j]?
  | [], _ => rfl
  | v :: vs, h => by
    unfold wipe
    rw [List.getElem?_set_ne (fun z => h (by rw [z]; exact List.mem_cons_self)), wipe_get fun z => h (List.mem_cons_of_mem _ z)]
theorem wipe_in {σ : L2.St} {j : Nat} : ∀ {vs : List Nat}, j ∈ vs → j < σ.length → (wipe σ vs)[j]? = some none
  | [], h, _ => by cases h
  | v :: vs, h, hl => by
    unfold wipe
    by_cases hv : v = j
    · subst hv
      rw [List.getElem?_set_self (by rw [wipe_length]; exact hl)]
    · rw [List.getElem?_set_ne hv]
      rcases List.mem_cons.mp h with z | z
      · exact absurd z.symm hv
      · exact wipe_in z hl
theorem wipe_eq {σ τ : L2.St} {vs : List Nat} (hl : σ.length = τ.length) (h : ∀ j, j ∉ vs → σ[j]? = τ[j]?) : wipe σ vs = wipe τ vs := by
  refine List.ext_getElem? fun j => ?_
  by_cases hj : j ∈ vs
  · by_cases hb : j < σ.length
    · rw [wipe_in hj hb, wipe_in hj (by rw [← hl]; exact hb)]
    · rw [List.getElem?_eq_none (by rw [wipe_length]; omega), List.getElem?_eq_none (by rw [wipe_length]; omega)]
  · rw [wipe_get hj, wipe_get hj, h j hj]
theorem wipeE_len {e : En} : ∀ {vs : List Nat}, (wipeE e vs).length = e.length
  | [] => rfl
  | v :: vs => by unfold wipeE; rw [List.length_set, wipeE_len]
theorem wipeE_get {e : En} {j : Nat} {s : Sl} : ∀ {vs : List Nat}, (wipeE e vs)[j]? = some s → s = .no ∨ (j ∉ vs ∧ e[j]? = some s)
  | [], h => .inr ⟨by simp, h⟩
  | v :: vs, h => by
    unfold wipeE at h
    by_cases hv : v = j
    · subst hv
      have hl : v < (wipeE e vs).length := by
        have := (List.getElem?_eq_some_iff.mp h).1
        simpa using this
      rw [List.getElem?_set_self hl] at h
      cases h
      exact .inl rfl
    · rw [List.getElem?_set_ne hv] at h
      rcases wipeE_get h with z | ⟨z1, z2⟩
      · exact .inl z
      · exact .inr ⟨fun q => by
          rcases List.mem_cons.mp q with w | w
          · exact hv w.symm
          · exact z1 w, z2⟩
theorem restore_len {e0 e : En} : ∀ {vs : List Nat}, (restore e0 e vs).length = e.length
  | [] => rfl
  | v :: vs => by
    unfold restore
    cases e0[v]? with
    | none => exact restore_len
    | some s => rw [List.length_set]; exact restore_len
theorem restore_get {e0 e : En} {j : Nat} {s : Sl} (hl : e0.length = e.length) : ∀ {vs : List Nat}, (restore e0 e vs)[j]? = some s → (j ∈ vs ∧ e0[j]? = some s) ∨ (j ∉ vs ∧ e[j]? = some s)
  | [], h => .inr ⟨by simp, h⟩
  | v :: vs, h => by
    unfold restore at h
    cases z : e0[v]? with
    | none =>
      rw [z] at h
      rcases restore_get hl h with ⟨z1, z2⟩ | ⟨z1, z2⟩
      · exact .inl ⟨List.mem_cons_of_mem _ z1, z2⟩
      · refine .inr ⟨fun q => ?_, z2⟩
        rcases List.mem_cons.mp q with w | w
        · subst w
          have h1 := List.getElem?_eq_none_iff.mp z
          have h2 := (List.getElem?_eq_some_iff.mp z2).1
          omega
        · exact z1 w
    | some s' =>
      rw [z] at h
      by_cases hv : v = j
      · subst hv
        have hb : v < (restore e0 e vs).length := by
          have := (List.getElem?_eq_some_iff.mp h).1
          simpa using this
        rw [List.getElem?_set_self hb] at h
        cases h
        exact .inl ⟨List.mem_cons_self, z⟩
      · rw [List.getElem?_set_ne hv] at h
        rcases restore_get hl h with ⟨z1, z2⟩ | ⟨z1, z2⟩
        · exact .inl ⟨List.mem_cons_of_mem _ z1, z2⟩
        · exact .inr ⟨fun q => by
            rcases List.mem_cons.mp q with w | w
            · exact hv w.symm
            · exact z1 w, z2⟩
section
variable {S : Sg} {c : Bx} {F F' H H' : Hp} {σ σ' : L2.St} {e e' : En} {vs : List Nat}
theorem Rel.wipe (r : Rel S c F H σ e) (vs : List Nat) : Rel S c F H (wipe σ vs) (wipeE e vs) := by
  refine ⟨r.bh, r.fh, by rw [wipe_length, wipeE_len]; exact r.len, fun {i d} h => ?_, fun {i m d} h => ?_, fun {i j m m' d d' a} h1 h2 p1 p2 => ?_⟩
  · rcases wipeE_get h with z | ⟨z1, z2⟩
    · cases z
    · rw [wipe_get z1]; exact r.fz z2
  · rcases wipeE_get h with z | ⟨z1, z2⟩
    · cases z
    · rw [wipe_get z1]; exact r.ow z2
  · rcases wipeE_get h1 with z | ⟨z1, z2⟩
    · cases z
    · rcases wipeE_get h2 with y | ⟨y1, y2⟩
      · cases y
      · rw [wipe_get z1] at p1
        rw [wipe_get y1] at p2
        exact r.dis z2 y2 p1 p2
theorem noOw_at {v : Nat} (h : noOw e vs = true) (hv : v ∈ vs) (m : Bool) (d : D) : e[v]? ≠ some (.ow m d) := fun q => by
  have z := List.all_eq_true.mp h v hv
  rw [q] at z
  cases z
theorem noOw_restore (hl : e.length = e'.length) (h : noOw e vs = true) : noOw (restore e e' vs) vs = true := by
  refine List.all_eq_true.mpr fun v hv => ?_
  cases z : (restore e e' vs)[v]? with
  | none => rfl
  | some s =>
    cases s with
    | ow m d =>
      rcases restore_get hl z with ⟨_, q⟩ | ⟨q, _⟩
      · exact absurd q (noOw_at h hv m d)
      · exact absurd hv q
    | _ => rfl
theorem Rel.restore (r0 : Rel S c F H σ e) (r : Rel S c F' H' σ' e') (g : Same F F') (hn : noOw e vs = true) (hw : L2.wipe σ' vs = L2.wipe σ vs) : Rel S c F' H' σ (restore e e' vs) := by
  have hsl : σ'.length = σ.length := by
    have := congrArg List.length hw
    rw [wipe_length, wipe_length] at this
    exact this
  have hl : e.length = e'.length := by rw [← r0.len, ← r.len, hsl]
  have hs : ∀ {j}, j ∉ vs → σ'[j]? = σ[j]? := fun {j} hj => by
    rw [← wipe_get (σ := σ') hj, ← wipe_get (σ := σ) hj, hw]
  refine ⟨r.bh, r.fh, by rw [restore_len, ← r.len, hsl], fun {i d} h => ?_, fun {i m d} h => ?_, fun {i j m m' d d' a} h1 h2 p1 p2 => ?_⟩
  · rcases restore_get hl h with ⟨_, q⟩ | ⟨q1, q2⟩
    · obtain ⟨v, h1, h2⟩ := r0.fz q
      exact ⟨v, h1, h2.mono g⟩
    · rw [← hs q1]; exact r.fz q2
  · rcases restore_get hl h with ⟨q0, q⟩ | ⟨q1, q2⟩
    · exact absurd q (noOw_at hn q0 m d)
    · rw [← hs q1]; exact r.ow q2
  · rcases restore_get hl h1 with ⟨q0, q⟩ | ⟨q1, q2⟩
    · exact absurd q (noOw_at hn q0 m d)
    · rcases restore_get hl h2 with ⟨y0, y⟩ | ⟨y1, y2⟩
      · exact absurd y (noOw_at hn y0 m' d')
      · rw [← hs q1] at p1
        rw [← hs y1] at p2
        exact r.dis q2 y2 p1 p2
/-- the frame that holds the list in the making -/
def with1 (c : Bx) (p : Addr) (o : HO) : Bx := ⟨upd c.B p o, c.ma⟩
theorem Rel.hold {p : Addr} {o : HO} (r : Rel S c F H σ e) (hp : H p = none) : Rel S (with1 c p o) F (upd H p o) σ e := by
  have nF : ∀ {b u}, F b = some u → b ≠ p := fun q z => by have := r.fh _ _ q; rw [z, hp] at this; cases this
  refine ⟨fun b u q => ?_, fun b u q => by rw [upd_ne (nF q)]; exact r.fh _ _ q, r.len, r.fz, fun {i m d} h => ?_, r.dis⟩
  · by_cases hb : b = p
    · subst hb
      have q' : upd c.B b o b = some u := q
      rw [upd_same] at q' ⊢
      exact q'
    · have q' : upd c.B p o b = some u := q
      rw [upd_ne hb] at q' ⊢
      exact r.bh _ _ q'
  · obtain ⟨a, h1, h2, h3, h4, h5⟩ := r.ow h
    obtain ⟨u, hu⟩ := h4.there
    have na : a ≠ p := fun z => by rw [z, hp] at hu; cases hu
    exact ⟨a, h1, h2, by show upd c.B p o a = none; rw [upd_ne na]; exact h3, h4.mono (Same.refl _) fun w hw => by rw [upd_ne na]; exact hw, h5⟩
theorem Rel.grow {p : Addr} {o o' : HO} (r : Rel S (with1 c p o) F H σ e) (hF : F p = none) : Rel S (with1 c p o') F (upd H p o') σ e := by
  have nF : ∀ {b u}, F b = some u → b ≠ p := fun q z => by rw [z, hF] at q; cases q
  refine ⟨fun b u q => ?_, fun b u q => by rw [upd_ne (nF q)]; exact r.fh _ _ q, r.len, r.fz, fun {i m d} h => ?_, r.dis⟩
  · by_cases hb : b = p
    · subst hb
      have q' : upd c.B b o' b = some u := q
      rw [upd_same] at q' ⊢
      exact q'
    · have q' : upd c.B p o' b = some u := q
      rw [upd_ne hb] at q' ⊢
      exact r.bh _ _ (by show upd c.B p o b = some u; rw [upd_ne hb]; exact q')
  · obtain ⟨a, h1, h2, h3, h4, h5⟩ := r.ow h
    have h3' : upd c.B p o a = none := h3
    have na : a ≠ p := fun z => by rw [z, upd_same] at h3'; cases h3'
    rw [upd_ne na] at h3'
    exact ⟨a, h1, h2, by show upd c.B p o' a = none; rw [upd_ne na]; exact h3', h4.mono (Same.refl _) fun w hw => by rw [upd_ne na]; exact hw, h5⟩
theorem Rel.drop {p : Addr} {o : HO} (r : Rel S (with1 c p o) F H σ e) (hF : F p = none) (hB : c.B p = none) : Rel S c F (delH H p) σ e := by
  have nF : ∀ {b u}, F b = some u → b ≠ p := fun q z => by rw [z, hF] at q; cases q
  have nB : ∀ {b u}, c.B b = some u → b ≠ p := fun q z => by rw [z, hB] at q; cases q
  refine ⟨fun b u q => ?_, fun b u q => by rw [delH_ne (nF q)]; exact r.fh _ _ q, r.len, r.fz, fun {i m d} h => ?_, r.dis⟩
  · rw [delH_ne (nB q)]
    exact r.bh _ _ (by show upd c.B p o b = some u; rw [upd_ne (nB q)]; exact q)
  · obtain ⟨a, h1, h2, h3, h4, h5⟩ := r.ow h
    have h3' : upd c.B p o a = none := h3
    have na : a ≠ p := fun z => by rw [z, upd_same] at h3'; cases h3'
    rw [upd_ne na] at h3'
    exact ⟨a, h1, h2, h3', h4.mono (Same.refl _) fun w hw => by rw [delH_ne na]; exact hw, h5⟩
theorem Gr.with1 {p : Addr} {o : HO} (g : Gr (with1 c p o) F F') (hB : c.B p = none) (hF : F p = none) : Gr c F F' ∧ F' p = none := by
  refine ⟨⟨g.1, fun a h n => ?_⟩, ?_⟩
  · have := g.2 a h n
    have q : upd c.B p o a = none := this
    by_cases ha : a = p
    · rw [ha]; exact hB
    · rw [upd_ne ha] at q; exact q
  · cases z : F' p with
    | none => rfl
    | some u =>
      have q : upd c.B p o p = none := g.2 p hF (by rw [z]; exact fun w => by cases w)
      rw [upd_same] at q
      cases q
end
section
variable {X : Cx} {elt tg iter : Expr} {pos : Pos}
structure PTd (X : Cx) (ifs : List Expr) (m : M Bool) : Prop where
  run : ∀ c W, Takes X W → PTs X ifs (tT (Sx X) c W m)
theorem ptd_nil : PTd X [] bYes := ⟨fun c W tk => ⟨fun pins s σ H Q I ⟨F, e, r, k⟩ => pts_nil.run pins s σ H Q I (k F H r Gr.refl)⟩⟩
theorem ptd_one {t : Expr} {m : M Bool} (h : PB X t m) : PTd X [t] m := ⟨fun c W tk => pts_one (h.run c W tk)⟩
abbrev W0 : WX := fun _ _ _ _ => False
/-- the reading of a comprehension, from its program of data -/
theorem lc_read {S : Sg} {c : Bx} {W : WX} {m : M (List D)} {is vs : List Nat} {st : D → En → Option En} {cond : M Bool} {y : M D} {σ : L2.St} {H : Hp} {Q : VK} (his : ∀ i ∈ is, i ∈ vs)
    (h : tN S c W (nLc m vs st cond y) σ H Q) :
    (∃ F e, Rel S c F H σ e ∧ Okx S c W F (m e) fun ds e1 => ∀ J F1 H1, Rel S c F1 H1 σ e1 → Gr c F F1 → ItOk S F1 J ds → ∀ p, H1 p = none → ∃ Wn : Nat → Nat → Hp → Prop, (∃ m, Wn 0 m (upd H1 p (.lst []))) ∧ ∀ i m H, Wn i m H →
      (J.stop i H ∧ Q (.ref p) H) ∨ (J.go i H ∧ ∃ Nx : Hp → Prop, (∀ H', Nx H' → ∃ m', m' < m ∧ Wn (i + 1) m' H') ∧ ∀ x H', J.yld i H x H' → ∃ c', tG S c' is st x (L2.wipe σ vs) H' fun σ2 H2 => L2.wipe σ2 vs = L2.wipe σ vs ∧ tT S c' W0 cond σ2 H2 fun b H3 =>
        if b = true then tX S c' W0 y σ2 H3 fun z H4 => ∃ acc, H4 p = some (.lst acc) ∧ acc.length < sizeLine ∧ Nx (upd H4 p (.lst (acc ++ [z]))) else Nx H3)) := by
  obtain ⟨F, e, r, k⟩ := h
  refine ⟨F, e, r, Okx.imp (Okx.bind k) fun ds e1 k1 J F1 H1 r1 g1 ok p hp => ?_⟩
  by_cases hc : noOw e1 vs = true ∧ ds.length ≤ sizeLine
  · rw [if_pos hc] at k1
    obtain ⟨hno, hlen⟩ := hc
    cases z : lcL vs st cond y ds e1 with
    | bad => rw [z] at k1; exact k1.elim
    | ex n fs e' => rw [z] at k1; exact k1.elim
    | ok ys e' =>
      rw [z] at k1
      have hB : c.B p = none := Same.free r1.bh hp
      have hF1 : F1 p = none := Same.free r1.fh hp
      refine ⟨fun i m H => i + m = ds.length ∧ ∃ F2 e2 acc accV yr, Rel S (with1 c p (.lst accV)) F2 H σ e2 ∧ F2 p = none ∧ Gr c F1 F2 ∧ noOw e2 vs = true ∧ Dats S F2 accV acc ∧ acc.length ≤ i ∧ lcL vs st cond y (ds.drop i) e2 = .ok yr e' ∧ ys = acc ++ yr,
        ⟨ds.length, Nat.zero_add _, F1, e1, [], [], ys, r1.hold hp, hF1, Gr.refl, hno, .nil, Nat.zero_le _, z, rfl⟩, fun i m H hW => ?_⟩
      obtain ⟨him, F2, e2, acc, accV, yr, r2, hF2, g2, hno2, dacc, hai, hl, hys⟩ := hW
      have okk := ok F2 H g2.1 r2.fh i
      by_cases hlt : i < ds.length
      · refine .inr ?_
        have hd : ds[i]? = some ds[i] := List.getElem?_eq_getElem hlt
        obtain ⟨hgo, hy⟩ := okk.1 _ hd
        have edrop : ds.drop i = ds[i] :: ds.drop (i + 1) := List.drop_eq_getElem_cons hlt
        rw [edrop] at hl
        unfold lcL at hl
        cases z1 : st ds[i] (wipeE e2 vs) with
        | none => rw [z1] at hl; cases hl
        | some e3 =>
          rw [z1] at hl
          refine ⟨hgo, fun H' => i + 1 + (m - 1) = ds.length ∧ ∃ F2 e2 acc accV yr, Rel S (with1 c p (.lst accV)) F2 H' σ e2 ∧ F2 p = none ∧ Gr c F1 F2 ∧ noOw e2 vs = true ∧ Dats S F2 accV acc ∧ acc.length ≤ i + 1 ∧ lcL vs st cond y (ds.drop (i + 1)) e2 = .ok yr e' ∧ ys = acc ++ yr,
            fun H' hN => ⟨m - 1, by omega, hN⟩, fun x H' hyx => ⟨with1 c p (.lst accV), ?_⟩⟩
          obtain ⟨F3, ext, dx⟩ := hy x H' hyx
          have r3 := r2.ext ext
          have g3 := r2.gr ext
          refine ⟨F3, wipeE e2 vs, ds[i], e3, r3.wipe vs, dx, z1, fun σ4 F4 H4 r4 g4 ag => ?_⟩
          have hw4 : L2.wipe σ4 vs = L2.wipe σ vs := by
            refine wipe_eq (by rw [ag.1, wipe_length]) fun j hj => ?_
            rw [ag.2 j fun q => hj (his j q), wipe_get hj]
          refine ⟨hw4, F4, e3, r4, ?_⟩
          cases zc : cond e3 with
          | bad => simp only [zc] at hl; cases hl
          | ex n fs e' => simp only [zc] at hl; cases hl
          | ok b e5 =>
            cases b with
            | false =>
              simp only [zc] at hl
              refine fun F5 H5 r5 g5 => iteF ?_
              obtain ⟨g3', hF3⟩ := g3.with1 hB hF2
              obtain ⟨g4', hF4⟩ := g4.with1 hB hF3
              obtain ⟨g5', hF5⟩ := g5.with1 hB hF4
              have gg := g3'.trans (g4'.trans g5')
              exact ⟨by omega, F5, restore e2 e5 vs, acc, accV, yr, Rel.restore r2 r5 gg.1 hno2 hw4, hF5, g2.trans gg, noOw_restore (by rw [← r2.len, ← r5.len]; have := congrArg List.length hw4; rw [wipe_length, wipe_length] at this; exact this.symm) hno2, dacc.mono gg.1, by omega, hl, hys⟩
            | true =>
              simp only [zc] at hl
              refine fun F5 H5 r5 g5 => iteT ⟨F5, e5, r5, ?_⟩
              cases zy : y e5 with
              | bad => simp only [zy] at hl; cases hl
              | ex n fs e' => simp only [zy] at hl; cases hl
              | ok yv e6 =>
                simp only [zy] at hl
                cases zl : lcL vs st cond y (ds.drop (i + 1)) (restore e2 e6 vs) with
                | bad => rw [zl] at hl; cases hl
                | ex n fs e' => rw [zl] at hl; cases hl
                | ok yr' e7 =>
                  rw [zl] at hl
                  cases hl
                  intro v F6 H6 r6 g6 dv
                  obtain ⟨g3', hF3⟩ := g3.with1 hB hF2
                  obtain ⟨g4', hF4⟩ := g4.with1 hB hF3
                  obtain ⟨g5', hF5⟩ := g5.with1 hB hF4
                  obtain ⟨g6', hF6⟩ := g6.with1 hB hF5
                  have gg := g3'.trans (g4'.trans (g5'.trans g6'))
                  have hHp : H6 p = some (.lst accV) := r6.bh p _ (by show upd c.B p _ p = _; rw [upd_same])
                  have hrr := Rel.restore r2 r6 gg.1 hno2 hw4
                  refine ⟨accV, hHp, by rw [dacc.length]; omega, by omega, F6, restore e2 e6 vs, acc ++ [yv], accV ++ [v], yr', hrr.grow hF6, hF6, g2.trans gg, noOw_restore (by rw [← r2.len, ← r6.len]; have := congrArg List.length hw4; rw [wipe_length, wipe_length] at this; exact this.symm) hno2,
                    (dacc.mono gg.1).append (Dats.one dv), by rw [List.length_append]; show acc.length + 1 ≤ i + 1; omega, zl, by rw [hys, List.append_assoc]; rfl⟩
      · refine .inl ⟨okk.2 (Nat.le_of_not_lt hlt), ?_⟩
        rw [List.drop_of_length_le (Nat.le_of_not_lt hlt)] at hl
        unfold lcL at hl
        cases hl
        rw [List.append_nil] at hys
        subst hys
        have hHp : H p = some (.lst accV) := r2.bh p _ (by show upd c.B p _ p = _; rw [upd_same])
        refine k1 p F2 H (delH H p) (r2.drop hF2 hB) (g1.trans g2) delH_same (fun b u q => ?_) r2.fh ⟨accV, hHp, dacc, by omega⟩
        by_cases hb : b = p
        · rw [hb, delH_same] at q; cases q
        · rw [delH_ne hb] at q; exact q
  · rw [if_neg hc] at k1
    exact k1.elim
theorem lc_goal {X : Cx} {c : Bx} {W : WX} {tgE : TG} {m : M (List D)} {is vs : List Nat} {st : D → En → Option En} {cond : M Bool} {y : M D} {wi : TI} {g : TG} {tt : TT} {te : TE} {σ : L2.St} {H : Hp} {Q : VK} (his : ∀ i ∈ is, i ∈ vs)
    (hw : ∀ σ H R, tI (Sx X) c W m σ H R → wi σ H R) (hg : ∀ c' v σ H Q, tG (Sx X) c' is st v σ H Q → g v σ H Q) (ht : ∀ c' σ H Q, tT (Sx X) c' W0 cond σ H Q → tt σ H Q) (he : ∀ c' σ H Q, tX (Sx X) c' W0 y σ H Q → te σ H Q)
    (h : tN (Sx X) c W (nLc m vs st cond y) σ H Q) : tLc wi g tt te vs σ H Q := by
  obtain ⟨F, e, r, k⟩ := lc_read his h
  refine hw _ _ _ ⟨F, e, r, Okx.imp k fun ds e1 k1 J F1 H1 r1 g1 ok => fun p hp => ?_⟩
  obtain ⟨Wn, h0, hs⟩ := k1 J F1 H1 r1 g1 ok p hp
  refine ⟨Wn, h0, fun i m H hW => ?_⟩
  rcases hs i m H hW with q | ⟨q1, Nx, q2, q3⟩
  · exact .inl q
  · refine .inr ⟨q1, Nx, q2, fun x H' hy => ?_⟩
    obtain ⟨c', q4⟩ := q3 x H' hy
    refine hg c' _ _ _ _ ?_
    obtain ⟨F2, e2, d, e3, p1, p2, p3, p4⟩ := q4
    refine ⟨F2, e2, d, e3, p1, p2, p3, fun σ' F' H' z1 z2 z3 => ?_⟩
    obtain ⟨w1, w2⟩ := p4 σ' F' H' z1 z2 z3
    refine ⟨w1, ht c' _ _ _ ?_⟩
    obtain ⟨F3, e3', y1, y2⟩ := w2
    refine ⟨F3, e3', y1, Okx.imp y2 fun b e4 y3 F4 H4 y4 y5 => ?_⟩
    have y6 := y3 F4 H4 y4 y5
    cases b with
    | false => exact y6
    | true =>
      simp only [if_true] at y6
      exact iteT (he c' _ _ _ y6)
theorem pn_lc {m : M (List D)} {is : List Nat} {st : D → En → Option En} {cond : M Bool} {y : M D} {scope : Scope} {own : List (Str × Nat)} {ifs : List Expr} (hN : X.N.Nodup) (hc : X.calm = true) (hi : PIt X tg iter m) (ok : BlkOk X.N X.env.scope scope own)
    (hg : ∀ (s : Shared) (H : Hp) (C : Addr) (cl : List (Str × Addr)) (fp : List Addr), PGd (X.blk s H scope (compEnvC scope cl C X.env) fp) tg is st)
    (ht : ∀ (s : Shared) (H : Hp) (C : Addr) (cl : List (Str × Addr)) (fp : List Addr), PTd (X.blk s H scope (compEnvC scope cl C X.env) fp) ifs cond)
    (he : ∀ (s : Shared) (H : Hp) (C : Addr) (cl : List (Str × Addr)) (fp : List Addr), PX (X.blk s H scope (compEnvC scope cl C X.env) fp) elt y) (his : ∀ i ∈ is, i ∈ own.map (·.2) := by decide) (hs : ∀ x, foldedSetIterable iter X.env x = pure x := by intro _; rfl) :
    PN X (.ListComp elt [⟨tg, iter, ifs, 0⟩] scope pos) (nLc m (own.map (·.2)) st cond y) := by
  refine ⟨fun c W tk => PE.imp (pe_lc (wi := fun σ H R => tI (Sx X) c W m σ H R) (g := fun v σ H Q => ∃ c', tG (Sx X) c' is st v σ H Q) (tt := fun σ H Q => ∃ c', tT (Sx X) c' W0 cond σ H Q) (te := fun σ H Q => ∃ c', tX (Sx X) c' W0 y σ H Q) hc hN (hi.run c W tk) ok
    (fun s H C cl fp => ⟨fun pins s' σ H' v u Q I r ⟨c', q⟩ => ((hg s H C cl fp).run c').run pins s' σ H' v u Q I r q⟩)
    (fun s H C cl fp => ⟨fun pins s' σ H' Q I ⟨c', q⟩ => ((ht s H C cl fp).run c' W0 takes0).run pins s' σ H' Q I q⟩)
    (fun s H C cl fp => ⟨fun pins s' σ H' Q I ⟨c', q⟩ => ((he s H C cl fp).run c' W0 takes0).run pins s' σ H' Q I q⟩) hs) fun σ H Q h => ?_⟩
  exact lc_goal (X := X) (c := c) (W := W) (tgE := fun _ _ _ _ => True) his (fun _ _ _ z => z) (fun c' _ _ _ _ z => ⟨c', z⟩) (fun c' _ _ _ z => ⟨c', z⟩) (fun c' _ _ _ z => ⟨c', z⟩) h
/-- name = [..] -/
theorem pd_lc (i : Nat) {x : Str} {py spos : Pos} {m : M (List D)} {is : List Nat} {st : D → En → Option En} {cond : M Bool} {y : M D} {scope : Scope} {own : List (Str × Nat)} {ifs : List Expr} (hN : X.N.Nodup) (hc : X.calm = true) (hi : PIt X tg iter m) (ok : BlkOk X.N X.env.scope scope own)
    (hsw : swapsWith (.ListComp elt [⟨tg, iter, ifs, 0⟩] scope pos) (some (.Name x py)) spos.line X.env = pure true)
    (hg : ∀ (s : Shared) (H : Hp) (C : Addr) (cl : List (Str × Addr)) (fp : List Addr), PGd (X.blk s H scope (compEnvC scope cl C X.env) fp) tg is st)
    (ht : ∀ (s : Shared) (H : Hp) (C : Addr) (cl : List (Str × Addr)) (fp : List Addr), PTd (X.blk s H scope (compEnvC scope cl C X.env) fp) ifs cond)
    (he : ∀ (s : Shared) (H : Hp) (C : Addr) (cl : List (Str × Addr)) (fp : List Addr), PX (X.blk s H scope (compEnvC scope cl C X.env) fp) elt y) (hy : X.N[i]? = some x := by rfl) (hyl : X.env.scope.names.lookup x = some .local := by rfl) (his : ∀ i ∈ is, i ∈ own.map (·.2) := by decide)
    (hs : ∀ x, foldedSetIterable iter X.env x = pure x := by intro _; rfl) :
    PSd X (.Assign [.Name x py] (.ListComp elt [⟨tg, iter, ifs, 0⟩] scope pos) spos) (sNew i (nLc m (own.map (·.2)) st cond y)) := by
  refine ⟨fun c W tk pw => PS.imp (ps_setLc (i := i) (wi := fun σ H R => tI (Sx X) c W m σ H R) (g := fun v σ H Q => ∃ c', tG (Sx X) c' is st v σ H Q) (tt := fun σ H Q => ∃ c', tT (Sx X) c' W0 cond σ H Q) (te := fun σ H Q => ∃ c', tX (Sx X) c' W0 y σ H Q) hc hN hy hyl hsw (hi.run c W tk) ok
    (fun s H C cl fp => ⟨fun pins s' σ H' v u Q I r ⟨c', q⟩ => ((hg s H C cl fp).run c').run pins s' σ H' v u Q I r q⟩)
    (fun s H C cl fp => ⟨fun pins s' σ H' Q I ⟨c', q⟩ => ((ht s H C cl fp).run c' W0 takes0).run pins s' σ H' Q I q⟩)
    (fun s H C cl fp => ⟨fun pins s' σ H' Q I ⟨c', q⟩ => ((he s H C cl fp).run c' W0 takes0).run pins s' σ H' Q I q⟩) hs) fun G σ H h => ?_⟩
  refine lc_goal (X := X) (c := c) (W := W) (tgE := fun _ _ _ _ => True) his (fun _ _ _ z => z) (fun c' _ _ _ _ z => ⟨c', z⟩) (fun c' _ _ _ z => ⟨c', z⟩) (fun c' _ _ _ z => ⟨c', z⟩) ?_
  obtain ⟨F, e, r, k⟩ := h
  refine ⟨F, e, r, Okx.imp (Okx.bind k) fun d e1 k1 p F1 H1 H0 r1 g1 hp hh fh ow => ?_⟩
  by_cases hf : free e1 i = true
  · rw [if_pos hf] at k1
    exact k1 _ F1 H1 (r1.setOw hp hh fh ow hf) g1
  · rw [if_neg hf] at k1
    exact k1.elim
end
end DP
set_option Elab.async false
set_option linter.all false
set_option maxRecDepth 100000
set_option maxHeartbeats 2000000
/-! DP9: operations of data. -/
namespace DP
open PySem PySem.Spec L2
open PyProof.Rows hiding St

section
variable {S : Sg} {F H : Hp}
theorem datR_int {v : V} {i : Int} (h : DatR S F H v (.int i)) : v = .int i := by
  rcases h with h | ⟨a, _, h⟩
  · cases h; rfl
  · exact h.elim
theorem datR_bl {v : V} {i : Bool} (h : DatR S F H v (.bl i)) : v = .bl i := by
  rcases h with h | ⟨a, _, h⟩
  · cases h; rfl
  · exact h.elim
theorem datR_non {v : V} (h : DatR S F H v .non) : v = .non := by
  rcases h with h | ⟨a, _, h⟩
  · cases h; rfl
  · exact h.elim
theorem datR_str {v : V} {x : Str} (h : DatR S F H v (.str x)) : v = .str x ∧ sOk x := by
  rcases h with h | ⟨a, _, h⟩
  · cases h with
    | str q => exact ⟨rfl, q⟩
  · exact h.elim
theorem datR_lst {v : V} {ds : List D} (fh : Same F H) (h : DatR S F H v (.lst ds)) : ∃ a xs, v = .ref a ∧ Rd H a (.lst xs) ∧ Dats S F xs ds ∧ ds.length ≤ sizeLine := by
  rcases h with h | ⟨a, e, xs, h1, h2, h3⟩
  · cases h with
    | lst h1 h2 h3 => exact ⟨_, _, rfl, Same.rd fh h1, h3, h2⟩
  · exact ⟨a, xs, e, .inl h1, h2, h3⟩
theorem datR_scr {v : V} {ns : List Int} (fh : Same F H) (h : DatR S F H v (.scr ns)) : ∃ a, v = .ref a ∧ SqL S.K H a (ns.map V.int) ∧ ns.length ≤ sizeLine := by
  rcases h with h | ⟨a, e, h⟩
  · cases h with
    | scr h1 h2 => exact ⟨_, rfl, L2.Same.seq fh h1, h2⟩
  · exact h.elim
theorem datR_tup {v : V} {ds : List D} (fh : Same F H) (h : DatR S F H v (.tup ds)) : ∃ a xs, v = .ref a ∧ SqT S.K H a xs ∧ Dats S F xs ds ∧ ds.length ≤ sizeLine ∧ Dat S F v (.tup ds) := by
  rcases h with h | ⟨a, e, h⟩
  · cases h with
    | tup h1 h2 h3 => exact ⟨_, _, rfl, Same.seqT fh h1, h3, h2, .tup h1 h2 h3⟩
  · exact h.elim
theorem sOk_cat {x y : Str} (hx : sOk x) (hy : sOk y) (h : x.length + y.length ≤ sizeLine) : sOk (x ++ y) := by
  refine ⟨?_, ?_⟩
  · show (x.cps ++ y.cps).size ≤ sizeLine
    rw [Array.size_append]
    exact h
  · have h1 := hx.2
    have h2 := hy.2
    unfold PyData.strOk at h1 h2 ⊢
    show (x.cps ++ y.cps).all _ = true
    rw [Array.all_append, h1, h2]
    rfl
end

/-! ### numbers -/
def opI (C : Int → Int → Bool) (g : Int → Int → D) : D → D → Option D
  | .int i, .int j => if C i j = true then some (g i j) else none
  | _, _ => none
theorem opI_some {C : Int → Int → Bool} {g : Int → Int → D} {a b d : D} (h : opI C g a b = some d) : ∃ i j, a = .int i ∧ b = .int j ∧ C i j = true ∧ d = g i j := by
  unfold opI at h
  split at h
  · rename_i i j
    by_cases hc : C i j = true
    · rw [if_pos hc] at h
      cases h
      exact ⟨i, j, rfl, rfl, hc, rfl⟩
    · rw [if_neg hc] at h
      cases h
  · cases h
theorem rD_int {S : Sg} {C : Int → Int → Bool} {Cp : Int → Int → Prop} {g : Int → Int → D} {gV : Int → Int → V} (hC : ∀ i j, C i j = true → Cp i j) (hg : ∀ F i j, Dat S F (gV i j) (g i j)) (x y : V) (H : Hp) (Q : VK) (h : rD S (opI C g) x y H Q) : rI Cp gV x y H Q := by
  obtain ⟨F, a, b, d, fh, da, db, e, q⟩ := h
  obtain ⟨i, j, rfl, rfl, hc, rfl⟩ := opI_some e
  exact ⟨i, j, datR_int da, datR_int db, hC i j hc, q _ F H (Ext.refl fh) (hg F i j)⟩
theorem rD_int0 {S : Sg} {g : Int → Int → D} {gV : Int → Int → V} (hg : ∀ F i j, Dat S F (gV i j) (g i j)) (x y : V) (H : Hp) (Q : VK) (h : rD S (opI (fun _ _ => true) g) x y H Q) : rI0 gV x y H Q := by
  obtain ⟨F, a, b, d, fh, da, db, e, q⟩ := h
  obtain ⟨i, j, rfl, rfl, hc, rfl⟩ := opI_some e
  exact ⟨i, j, datR_int da, datR_int db, q _ F H (Ext.refl fh) (hg F i j)⟩
def subD : D → D → Option D := opI (fun _ _ => true) fun i j => .int (i - j)
def mulI : D → D → Option D := opI (fun i j => decide (i.natAbs < 18446744073709551616) || decide (j.natAbs < 18446744073709551616)) fun i j => .int (i * j)
def divD : D → D → Option D := opI (fun _ j => decide (0 < j) && decide (j.natAbs < 1073741824)) fun i j => .int (i / j)
def modD : D → D → Option D := opI (fun _ j => decide (0 < j)) fun i j => .int (i % j)
def powD : D → D → Option D := opI (fun i j => decide (0 ≤ j) && (decide (j ≤ 1000000) && decide (i.natAbs < 2 ^ 64))) fun i j => .int (i ^ j.toNat)
def addI : D → D → Option D := opI (fun _ _ => true) fun i j => .int (i + j)
def ltD : D → D → Option D := opI (fun _ _ => true) fun i j => .bl (decide (i < j))
def leD : D → D → Option D := opI (fun _ _ => true) fun i j => .bl (decide (i ≤ j))
def gtD : D → D → Option D := opI (fun _ _ => true) fun i j => .bl (decide (j < i))
def geD : D → D → Option D := opI (fun _ _ => true) fun i j => .bl (decide (j ≤ i))
section
variable {X : Cx}
theorem d_sub : OpR X (binaryOp .Sub) (rD (Sx X) subD) := OpR.imp op_sub (rD_int0 fun _ _ _ => .int _)
theorem d_addI : OpR X (binaryOp .Add) (rD (Sx X) addI) := OpR.imp op_add (rD_int0 fun _ _ _ => .int _)
theorem d_mulI : OpR X (binaryOp .Mult) (rD (Sx X) mulI) := OpR.imp op_mul (rD_int (fun i j h => by
  simp only [Bool.or_eq_true, decide_eq_true_eq] at h
  show (-(2 ^ 64) < i ∧ i < 2 ^ 64) ∨ (-(2 ^ 64) < j ∧ j < 2 ^ 64)
  omega) fun _ _ _ => .int _)
theorem d_div : OpR X (binaryOp .FloorDiv) (rD (Sx X) divD) := OpR.imp op_fdiv (rD_int (fun i j h => by
  simp only [Bool.and_eq_true, decide_eq_true_eq] at h
  show 0 < j ∧ j < 1073741824
  omega) fun _ _ _ => .int _)
theorem d_mod : OpR X (binaryOp .Mod) (rD (Sx X) modD) := OpR.imp op_mod (rD_int (fun i j h => of_decide_eq_true h) fun _ _ _ => .int _)
theorem d_pow : OpR X (binaryOp .Pow) (rD (Sx X) powD) := OpR.imp op_pow (rD_int (fun i j h => by
  simp only [Bool.and_eq_true, decide_eq_true_eq] at h
  exact h) fun _ _ _ => .int _)
theorem d_lt : OpR X (compareOp .Lt) (rD (Sx X) ltD) := OpR.imp op_lt (rD_int0 fun _ _ _ => .bl _)
theorem d_le : OpR X (compareOp .LtE) (rD (Sx X) leD) := OpR.imp op_le (rD_int0 fun _ _ _ => .bl _)
theorem d_gt : OpR X (compareOp .Gt) (rD (Sx X) gtD) := OpR.imp op_gt (rD_int0 fun _ _ _ => .bl _)
theorem d_ge : OpR X (compareOp .GtE) (rD (Sx X) geD) := OpR.imp op_ge (rD_int0 fun _ _ _ => .bl _)

/-! ### +, texts, tuples, lists -/
def addS : D → D → Option D
  | .str x, .str y => if x.length + y.length ≤ sizeLine then some (.str (x ++ y)) else none
  | _, _ => none
def addT : D → D → Option D
  | .tup xs, .tup ys => if xs.length + ys.length ≤ sizeLine then some (.tup (xs ++ ys)) else none
  | _, _ => none
def addL : D → D → Option D
  | .lst xs, .lst ys => if xs.length + ys.length ≤ sizeLine then some (.lst (xs ++ ys)) else none
  | _, _ => none
theorem d_addS : OpR X (binaryOp .Add) (rD (Sx X) addS) := OpR.imp op_add_str fun x y H Q ⟨F, a, b, d, fh, da, db, e, q⟩ => by
  unfold addS at e
  split at e
  · rename_i s t
    by_cases hz : s.length + t.length ≤ sizeLine
    · rw [if_pos hz] at e
      cases e
      obtain ⟨rfl, h1⟩ := datR_str da
      obtain ⟨rfl, h2⟩ := datR_str db
      exact ⟨s, t, rfl, rfl, hz, q _ F H (Ext.refl fh) (.str (sOk_cat h1 h2 hz))⟩
    · rw [if_neg hz] at e
      cases e
  · cases e
theorem d_addT : OpR X (binaryOp .Add) (rD (Sx X) addT) := OpR.imp op_catA fun x y H Q ⟨F, a, b, d, fh, da, db, e, q⟩ => by
  unfold addT at e
  split at e
  · rename_i s t
    by_cases hz : s.length + t.length ≤ sizeLine
    · rw [if_pos hz] at e
      cases e
      obtain ⟨p, xs, rfl, h1, h2, h3, h4⟩ := datR_tup fh da
      obtain ⟨p', ys, rfl, k1, k2, k3, k4⟩ := datR_tup fh db
      refine ⟨p, p', xs, ys, rfl, rfl, h1, k1, by rw [h2.length, k2.length]; exact hz, fun hx => ?_, fun hx hy => ?_, fun hx hy r hr => ?_⟩
      · subst hx
        cases h2
        exact q _ F H (Ext.refl fh) (by rw [List.nil_append]; exact k4)
      · subst hy
        cases k2
        exact q _ F H (Ext.refl fh) (by rw [List.append_nil]; exact h4)
      · have x : Ext F H (upd F r (.tup (xs ++ ys))) (upd H r (.tup (xs ++ ys))) := Ext.new fh hr
        exact q _ _ _ x (.tup (SqT.of upd_same) (by rw [List.length_append]; exact hz) ((h2.mono x.ff).append (k2.mono x.ff)))
    · rw [if_neg hz] at e
      cases e
  · cases e
/-- list + list, of any kind -/
theorem op_catL : OpR X (binaryOp .Add) (fun x y H Q => ∃ l b xs zs, x = .ref l ∧ y = .ref b ∧ Rd H l (.lst xs) ∧ Rd H b (.lst zs) ∧ xs.length + zs.length ≤ sizeLine ∧ ∀ p, H p = none → Q (.ref p) (upd H p (.lst (xs ++ zs)))) := by
  intro pins s σ H x y v u Q I rx ry h
  obtain ⟨l, b, xs, zs, rfl, rfl, hH, hB, hz, q⟩ := h
  cases rx
  cases ry
  obtain ⟨z, its, n, r, e⟩ := hH.ok I.hok
  obtain ⟨z2, its2, n2, r2, e2⟩ := hB.ok I.hok
  have ln := r.length
  have ln2 := r2.length
  refine PySem.P.add_list e e2 ?_ (by rw [List.size_toArray, List.size_toArray]; omega)
  have ea : its.toArray ++ its2.toArray = (its ++ its2).toArray := by simp
  rw [ea]
  exact ⟨.ref _, _, I.lnew (t' := s.toks) (r.append r2) (by rw [List.length_append]; omega), rfl, q _ I.fresh⟩
theorem dN_addL : OpR X (binaryOp .Add) (rDN (Sx X) addL) := OpR.imp op_catL fun x y H Q ⟨F, a, b, d, fh, da, db, e, q⟩ => by
  unfold addL at e
  split at e
  · rename_i s t
    by_cases hz : s.length + t.length ≤ sizeLine
    · rw [if_pos hz] at e
      cases e
      obtain ⟨p, xs, rfl, h1, h2, h3⟩ := datR_lst fh da
      obtain ⟨p', ys, rfl, k1, k2, k3⟩ := datR_lst fh db
      refine ⟨p, p', xs, ys, rfl, rfl, h1, k1, by rw [h2.length, k2.length]; exact hz, fun r hr => ?_⟩
      exact q r _ hr (same_new hr) ⟨xs ++ ys, upd_same, h2.append k2, by rw [List.length_append]; exact hz⟩
    · rw [if_neg hz] at e
      cases e
  · cases e
/-! ### items -/
def ixD : D → D → Option D
  | .lst ds, .int i => atI ds i
  | .tup ds, .int i => atI ds i
  | .scr ns, .int i => (atI ns i).map D.int
  | .str x, .int i => (atI x.cps.toList i).map fun c => .str ⟨#[c]⟩
  | _, _ => none
theorem atI_dats {S : Sg} {F : Hp} {xs : List V} {ds : List D} {i : Int} {d : D} (h : Dats S F xs ds) (e : atI ds i = some d) : ∃ v, atI xs i = some v ∧ Dat S F v d := by
  unfold atI at e ⊢
  rw [h.length]
  cases z : ixN ds.length i with
  | none => rw [z] at e; cases e
  | some j =>
    rw [z] at e
    exact h.get e
theorem atI_map {α β : Type} (f : α → β) (xs : List α) (i : Int) : atI (xs.map f) i = (atI xs i).map f := by
  unfold atI
  rw [List.length_map]
  cases ixN xs.length i with
  | none => rfl
  | some j => exact List.getElem?_map
theorem d_ix : IxR X (rD (Sx X) ixD) := IxR.imp (ix_seq (X := X)) fun x y H Q ⟨F, a, b, d, fh, da, db, e, q⟩ => by
  cases b with
  | int i =>
    have ey := datR_int db
    subst ey
    cases a with
    | lst ds =>
      obtain ⟨p, xs, rfl, h1, h2, h3⟩ := datR_lst fh da
      obtain ⟨v, hv, dv⟩ := atI_dats h2 e
      exact .inl ⟨p, xs, i, v, rfl, rfl, .inl h1, hv, q v F H (Ext.refl fh) dv⟩
    | scr ns =>
      obtain ⟨p, rfl, h1, h2⟩ := datR_scr fh da
      have e' : (atI ns i).map D.int = some d := e
      obtain ⟨n, hn, rfl⟩ := Option.map_eq_some_iff.mp e'
      exact .inl ⟨p, _, i, .int n, rfl, rfl, h1, by rw [atI_map, hn]; rfl, q _ F H (Ext.refl fh) (.int n)⟩
    | tup ds =>
      obtain ⟨p, xs, rfl, h1, h2, h3, _⟩ := datR_tup fh da
      obtain ⟨v, hv, dv⟩ := atI_dats h2 e
      exact .inr (.inl ⟨p, xs, i, v, rfl, rfl, h1, hv, q v F H (Ext.refl fh) dv⟩)
    | str z =>
      obtain ⟨rfl, hz⟩ := datR_str da
      have e' : (atI z.cps.toList i).map (fun c => D.str ⟨#[c]⟩) = some d := e
      obtain ⟨c, hc, rfl⟩ := Option.map_eq_some_iff.mp e'
      refine .inr (.inr ⟨z, i, c, rfl, rfl, hz.1, hc, q _ F H (Ext.refl fh) (.str (sOk_sign hz ?_))⟩)
      unfold atI at hc
      cases w : ixN z.cps.toList.length i with
      | none => rw [w] at hc; cases hc
      | some j =>
        rw [w] at hc
        exact List.mem_of_getElem? hc
    | _ => cases e
  | _ => cases a <;> cases e

/-! ### len, int, tuple, list -/
def lenD : List D → Option D
  | [.lst ds] => some (.int ds.length)
  | [.tup ds] => some (.int ds.length)
  | [.scr ds] => some (.int ds.length)
  | [.str x] => some (.int x.length)
  | _ => none
theorem paired1 {S : Sg} {F H : Hp} {xs : List V} {d : D} (h : Paired (fun v a => DatR S F H v a) xs [d]) : ∃ v, xs = [v] ∧ DatR S F H v d := by
  cases h with
  | cons h t =>
    cases t
    exact ⟨_, rfl, h⟩
theorem paired2 {S : Sg} {F H : Hp} {xs : List V} {d e : D} (h : Paired (fun v a => DatR S F H v a) xs [d, e]) : ∃ v w, xs = [v, w] ∧ DatR S F H v d ∧ DatR S F H w e := by
  cases h with
  | cons h t =>
    obtain ⟨w, rfl, hw⟩ := paired1 t
    exact ⟨_, _, rfl, h, hw⟩
theorem d_len : CallR X (.builtin "len") (rDs (Sx X) lenD) := CallR.imp call_len fun xs H Q ⟨F, ds, d, fh, da, e, q⟩ => by
  match ds, da, e with
  | [.lst zs], da, e =>
    cases e
    obtain ⟨v, rfl, h⟩ := paired1 da
    obtain ⟨p, ys, rfl, h1, h2, h3⟩ := datR_lst fh h
    exact ⟨_, _, rfl, .inl ⟨ys, .inl h1, rfl⟩, by rw [h2.length]; exact q _ F H (Ext.refl fh) (.int _)⟩
  | [.scr zs], da, e =>
    cases e
    obtain ⟨v, rfl, h⟩ := paired1 da
    obtain ⟨p, rfl, h1, h2⟩ := datR_scr fh h
    exact ⟨_, _, rfl, .inl ⟨_, h1, rfl⟩, by rw [List.length_map]; exact q _ F H (Ext.refl fh) (.int _)⟩
  | [.tup zs], da, e =>
    cases e
    obtain ⟨v, rfl, h⟩ := paired1 da
    obtain ⟨p, ys, rfl, h1, h2, h3, _⟩ := datR_tup fh h
    exact ⟨_, _, rfl, .inr ⟨ys, h1, rfl⟩, by rw [h2.length]; exact q _ F H (Ext.refl fh) (.int _)⟩
  | [.str z], da, e =>
    cases e
    obtain ⟨v, rfl, h⟩ := paired1 da
    obtain ⟨rfl, hz⟩ := datR_str h
    exact ⟨_, z.length, rfl, ⟨hz.1, rfl⟩, q _ F H (Ext.refl fh) (.int _)⟩
def intD : List D → Option D
  | [.int i] => some (.int i)
  | [.bl b] => some (.int (if b then 1 else 0))
  | _ => none
theorem d_int : CallR X (.type "int") (rDs (Sx X) intD) := CallR.imp call_int1 fun xs H Q ⟨F, ds, d, fh, da, e, q⟩ => by
  match ds, da, e with
  | [.int i], da, e =>
    cases e
    obtain ⟨v, rfl, h⟩ := paired1 da
    cases datR_int h
    exact .inl ⟨i, rfl, q _ F H (Ext.refl fh) (.int _)⟩
  | [.bl b], da, e =>
    cases e
    obtain ⟨v, rfl, h⟩ := paired1 da
    cases datR_bl h
    exact .inr ⟨b, rfl, q _ F H (Ext.refl fh) (.int _)⟩
def tupD : List D → Option D
  | [.lst ds] => some (.tup ds)
  | [.tup ds] => some (.tup ds)
  | _ => none
theorem d_tup : CallR X (.type "tuple") (rDs (Sx X) tupD) := CallR.imp call_tuple_of fun xs H Q ⟨F, ds, d, fh, da, e, q⟩ => by
  match ds, da, e with
  | [.lst zs], da, e =>
    cases e
    obtain ⟨v, rfl, h⟩ := paired1 da
    obtain ⟨p, ys, rfl, h1, h2, h3⟩ := datR_lst fh h
    refine ⟨p, ys, rfl, .inl ⟨.inl h1, fun l hl => ?_⟩⟩
    have x : Ext F H (upd F l (.tup ys)) (upd H l (.tup ys)) := Ext.new fh hl
    exact q _ _ _ x (.tup (SqT.of upd_same) h3 (h2.mono x.ff))
  | [.tup zs], da, e =>
    cases e
    obtain ⟨v, rfl, h⟩ := paired1 da
    obtain ⟨p, ys, rfl, h1, h2, h3, h4⟩ := datR_tup fh h
    exact ⟨p, ys, rfl, .inr ⟨h1, q _ F H (Ext.refl fh) h4⟩⟩
def listD : List D → Option D
  | [.lst ds] => some (.lst ds)
  | [.tup ds] => some (.lst ds)
  | _ => none
theorem dN_list : CallR X (.type "list") (rDsN (Sx X) listD) := CallR.imp call_list_of fun xs H Q ⟨F, ds, d, fh, da, e, q⟩ => by
  match ds, da, e with
  | [.lst zs], da, e =>
    cases e
    obtain ⟨v, rfl, h⟩ := paired1 da
    obtain ⟨p, ys, rfl, h1, h2, h3⟩ := datR_lst fh h
    exact ⟨p, ys, rfl, .inl (.inl h1), fun l hl => q l _ hl (same_new hl) ⟨ys, upd_same, h2, h3⟩⟩
  | [.tup zs], da, e =>
    cases e
    obtain ⟨v, rfl, h⟩ := paired1 da
    obtain ⟨p, ys, rfl, h1, h2, h3, _⟩ := datR_tup fh h
    exact ⟨p, ys, rfl, .inr h1, fun l hl => q l _ hl (same_new hl) ⟨ys, upd_same, h2, h3⟩⟩
end
end DP
set_option Elab.async false
set_option linter.all false
set_option maxRecDepth 100000
set_option maxHeartbeats 2000000
/-! DP10: equality, membership, the whole +, texts joined, slices, isinstance of plain data. -/
namespace DP
open PySem PySem.Spec L2
open PyProof.Rows hiding St

mutual
def toP : D → PyData
  | .non => .none
  | .bl b => .bool b
  | .int i => .int i
  | .str x => .str x
  | .tup xs => .tuple (toPs xs)
  | .lst xs => .list (toPs xs)
  | _ => .none
def toPs : List D → List PyData
  | [] => []
  | d :: ds => toP d :: toPs ds
end
mutual
/-- none, bools, ints, texts, lists and tuples of them, nested at most n deep -/
def pl : D → Nat → Bool
  | .non, _ => true
  | .bl _, _ => true
  | .int _, _ => true
  | .str _, _ => true
  | .tup xs, n + 1 => pls xs n
  | .lst xs, n + 1 => pls xs n
  | _, _ => false
def pls : List D → Nat → Bool
  | [], _ => true
  | d :: ds, n => pl d n && pls ds n
end
mutual
theorem dp_of {S : Sg} {F H : Hp} (fh : Same F H) : ∀ {v : V} {d : D} {n : Nat}, Dat S F v d → pl d n = true → Dp S.K H v (toP d) ∧ (toP d).canLay0 = true ∧ (toP d).depth ≤ n
  | _, _, _, .non, _ => ⟨.non, rfl, Nat.zero_le _⟩
  | _, _, _, .bl b, _ => ⟨.bl b, rfl, Nat.zero_le _⟩
  | _, _, _, .int i, _ => ⟨.int i, rfl, Nat.zero_le _⟩
  | _, .str x, _, .str h, _ => ⟨.str _, h.2, Nat.zero_le _⟩
  | _, .tup ds, 0, .tup h l dd, p => by cases p
  | _, .tup ds, n + 1, .tup h l dd, p => by
    obtain ⟨h1, h2, h3⟩ := dps_of fh (n := n) dd p
    exact ⟨.tup (Same.seqT fh h) h1, h2, Nat.succ_le_succ h3⟩
  | _, .lst ds, 0, .lst h l dd, p => by cases p
  | _, .lst ds, n + 1, .lst h l dd, p => by
    obtain ⟨h1, h2, h3⟩ := dps_of fh (n := n) dd p
    exact ⟨.lst (.inl (Same.rd fh h)) h1, h2, Nat.succ_le_succ h3⟩
  | _, .scr _, n, .scr h l, p => by cases n <;> cases p
  | _, .dic _, n, .dic _ _ _ _, p => by cases n <;> cases p
  | _, .dit _, n, .dit _ _ _ _, p => by cases n <;> cases p
  | _, .obj _ _, n, .obj _ _ _ _, p => by cases n <;> cases p
  | _, .exn _ _, n, .exn0 _ _, p => by cases n <;> cases p
  | _, .exn _ _, n, .exn1 _ _ _ _, p => by cases n <;> cases p
theorem dps_of {S : Sg} {F H : Hp} (fh : Same F H) : ∀ {vs : List V} {ds : List D} {n : Nat}, Dats S F vs ds → pls ds n = true → DpAll S.K H vs (toPs ds) ∧ PyData.canLayAll0 (toPs ds) = true ∧ PyData.depthAll (toPs ds) ≤ n
  | _, _, _, .nil, _ => ⟨.nil, rfl, Nat.zero_le _⟩
  | _, d :: ds, n, .cons h t, p => by
    have p' : (pl d n && pls ds n) = true := p
    obtain ⟨p1, p2⟩ := Bool.and_eq_true_iff.mp p'
    obtain ⟨h1, h2, h3⟩ := dp_of fh h p1
    obtain ⟨k1, k2, k3⟩ := dps_of fh t p2
    exact ⟨.cons h1 k1, Bool.and_eq_true_iff.mpr ⟨h2, k2⟩, Nat.max_le.mpr ⟨h3, k3⟩⟩
end
theorem dpR_of {S : Sg} {F H : Hp} (fh : Same F H) {v : V} {d : D} {n : Nat} (h : DatR S F H v d) (p : pl d n = true) : Dp S.K H v (toP d) ∧ (toP d).canLay0 = true ∧ (toP d).depth ≤ n := by
  rcases h with h | ⟨a, rfl, h⟩
  · exact dp_of fh h p
  · cases d with
    | lst ds =>
      obtain ⟨xs, h1, h2, h3⟩ := h
      cases n with
      | zero => cases p
      | succ n =>
        obtain ⟨k1, k2, k3⟩ := dps_of fh (n := n) h2 p
        exact ⟨.lst (SqL.of h1) k1, k2, Nat.succ_le_succ k3⟩
    | _ => first | exact h.elim | (cases n <;> cases p)
theorem shaped_of {d : PyData} {n : Nat} (h : d.canLay0 = true) (h2 : d.depth ≤ n) (hn : n ≤ 64) : SeqAt.shaped d = true := Bool.and_eq_true_iff.mpr ⟨h, decide_eq_true (Nat.le_trans h2 hn)⟩
def eqB (a b : D) : Bool := PyData.eqv (toP a) (toP b)
def eqD : D → D → Option D := fun a b => if pl a 64 = true ∧ pl b 64 = true then some (.bl (eqB a b)) else none
def neD : D → D → Option D := fun a b => if pl a 64 = true ∧ pl b 64 = true then some (.bl (!eqB a b)) else none
section
variable {X : Cx}
theorem d_eq (hu : X.A.units + 64 < cLine) : OpR X (compareOp .Eq) (rD (Sx X) eqD) := OpR.imp (op_eqD hu) fun x y H Q ⟨F, a, b, d, fh, da, db, e, q⟩ => by
  unfold eqD at e
  by_cases hp : pl a 64 = true ∧ pl b 64 = true
  · rw [if_pos hp] at e
    cases e
    obtain ⟨h1, h2, h3⟩ := dpR_of fh da hp.1
    obtain ⟨k1, k2, k3⟩ := dpR_of fh db hp.2
    exact ⟨_, _, h1, k1, shaped_of h2 h3 (Nat.le_refl _), shaped_of k2 k3 (Nat.le_refl _), q _ F H (Ext.refl fh) (.bl _)⟩
  · rw [if_neg hp] at e
    cases e
theorem d_ne (hu : X.A.units + 64 < cLine) : OpR X (compareOp .NotEq) (rD (Sx X) neD) := OpR.imp (op_neD hu) fun x y H Q ⟨F, a, b, d, fh, da, db, e, q⟩ => by
  unfold neD at e
  by_cases hp : pl a 64 = true ∧ pl b 64 = true
  · rw [if_pos hp] at e
    cases e
    obtain ⟨h1, h2, h3⟩ := dpR_of fh da hp.1
    obtain ⟨k1, k2, k3⟩ := dpR_of fh db hp.2
    exact ⟨_, _, h1, k1, shaped_of h2 h3 (Nat.le_refl _), shaped_of k2 k3 (Nat.le_refl _), q _ F H (Ext.refl fh) (.bl _)⟩
  · rw [if_neg hp] at e
    cases e
/-! ### is None -/
def isND : D → D → Option D := fun a b => match b with
  | .non => (match a with
    | .non => some (.bl true)
    | .scr _ => none
    | _ => some (.bl false))
  | _ => none
def notND : D → D → Option D := fun a b => match b with
  | .non => (match a with
    | .non => some (.bl false)
    | .scr _ => none
    | _ => some (.bl true))
  | _ => none
theorem datR_ref {S : Sg} {F H : Hp} {v : V} {d : D} (h : DatR S F H v d) (hd : v = .non) : d = .non := by
  subst hd
  rcases h with h | ⟨a, e, _⟩
  · cases h; rfl
  · cases e
theorem d_isN : OpR X (compareOp .Is) (rD (Sx X) isND) := OpR.imp op_isN fun x y H Q ⟨F, a, b, d, fh, da, db, e, q⟩ => by
  cases b with
  | non =>
    refine ⟨datR_non db, ?_⟩
    by_cases hx : x = .non
    · have ha := datR_ref da hx
      subst ha
      cases e
      rw [decide_eq_true hx]
      exact q _ F H (Ext.refl fh) (.bl _)
    · have hn : a ≠ .non := fun z => hx (by subst z; exact datR_non da)
      have ed : d = .bl false := by
        cases a <;> first | exact absurd rfl hn | (cases e; rfl) | cases e
      subst ed
      rw [decide_eq_false hx]
      exact q _ F H (Ext.refl fh) (.bl _)
  | _ => cases e
theorem d_notN : OpR X (compareOp .IsNot) (rD (Sx X) notND) := OpR.imp op_notN fun x y H Q ⟨F, a, b, d, fh, da, db, e, q⟩ => by
  cases b with
  | non =>
    refine ⟨datR_non db, ?_⟩
    by_cases hx : x = .non
    · have ha := datR_ref da hx
      subst ha
      cases e
      rw [decide_eq_true hx]
      exact q _ F H (Ext.refl fh) (.bl _)
    · have hn : a ≠ .non := fun z => hx (by subst z; exact datR_non da)
      have ed : d = .bl true := by
        cases a <;> first | exact absurd rfl hn | (cases e; rfl) | cases e
      subst ed
      rw [decide_eq_false hx]
      exact q _ F H (Ext.refl fh) (.bl _)
  | _ => cases e
/-! ### in -/
def inL (neg : Bool) : D → D → Option D := fun a b => match b with
  | .lst ds => if pl a 64 = true ∧ pls ds 63 = true then some (.bl (let r := ds.any fun z => eqB z a; if neg then !r else r)) else none
  | _ => none
theorem toPs_any (a : D) : ∀ ds : List D, (toPs ds).any (fun z => PyData.eqv z (toP a)) = ds.any fun z => eqB z a
  | [] => rfl
  | d :: ds => by
    show (PyData.eqv (toP d) (toP a) || (toPs ds).any _) = (eqB d a || ds.any _)
    rw [toPs_any a ds]
    rfl
theorem dp_list {S : Sg} {F H : Hp} (fh : Same F H) {v : V} {ds : List D} (h : DatR S F H v (.lst ds)) (p : pls ds 63 = true) : Dp S.K H v (.list (toPs ds)) ∧ SeqAt.shaped (.list (toPs ds)) = true := by
  obtain ⟨h1, h2, h3⟩ := dpR_of (n := 64) fh h p
  exact ⟨h1, shaped_of h2 h3 (Nat.le_refl _)⟩
theorem d_inL (hu : X.A.units + 65 < cLine) : OpR X (compareOp .In) (rD (Sx X) (inL false)) := OpR.imp (op_inD hu) fun x y H Q ⟨F, a, b, d, fh, da, db, e, q⟩ => by
  cases b with
  | lst ds =>
    have e' : (if pl a 64 = true ∧ pls ds 63 = true then some (D.bl (ds.any fun z => eqB z a)) else none) = some d := e
    by_cases hp : pl a 64 = true ∧ pls ds 63 = true
    · rw [if_pos hp] at e'
      cases e'
      obtain ⟨h1, h2, h3⟩ := dpR_of fh da hp.1
      obtain ⟨k1, k2⟩ := dp_list fh db hp.2
      refine ⟨_, _, h1, k1, shaped_of h2 h3 (Nat.le_refl _), k2, ?_⟩
      rw [toPs_any]
      exact q _ F H (Ext.refl fh) (.bl _)
    · rw [if_neg hp] at e'
      cases e'
  | _ => cases e
theorem d_notInL (hu : X.A.units + 65 < cLine) : OpR X (compareOp .NotIn) (rD (Sx X) (inL true)) := OpR.imp (op_notInD hu) fun x y H Q ⟨F, a, b, d, fh, da, db, e, q⟩ => by
  cases b with
  | lst ds =>
    have e' : (if pl a 64 = true ∧ pls ds 63 = true then some (D.bl (!ds.any fun z => eqB z a)) else none) = some d := e
    by_cases hp : pl a 64 = true ∧ pls ds 63 = true
    · rw [if_pos hp] at e'
      cases e'
      obtain ⟨h1, h2, h3⟩ := dpR_of fh da hp.1
      obtain ⟨k1, k2⟩ := dp_list fh db hp.2
      refine ⟨_, _, h1, k1, shaped_of h2 h3 (Nat.le_refl _), k2, ?_⟩
      rw [toPs_any]
      exact q _ F H (Ext.refl fh) (.bl _)
    · rw [if_neg hp] at e'
      cases e'
  | _ => cases e
/-! a tuple of flat members -/
def flat : D → Bool
  | .non => true
  | .bl _ => true
  | .int _ => true
  | .str _ => true
  | _ => false
def inT (neg : Bool) : D → D → Option D := fun a b => match b with
  | .tup ds => if flat a = true ∧ ds.all flat = true then some (.bl (let r := ds.any fun z => eqB z a; if neg then !r else r)) else none
  | _ => none
theorem flat_V {S : Sg} {F H : Hp} {v : V} {d : D} (h : DatR S F H v d) (f : flat d = true) : flatV v = true := by
  rcases h with h | ⟨a, rfl, h⟩
  · cases h <;> first | exact Bool.noConfusion (show false = true from f) | rfl
  · cases d <;> first | exact Bool.noConfusion (show false = true from f) | exact h.elim
theorem flat_eq {S : Sg} {F F' H H' : Hp} {v w : V} {d e : D} (h : DatR S F H v d) (f : flat d = true) (h' : DatR S F' H' w e) (f' : flat e = true) : eqV v w = eqB d e := by
  rcases h with h | ⟨a, rfl, h⟩
  · rcases h' with h' | ⟨a, rfl, h'⟩
    · cases h <;> first | exact Bool.noConfusion (show false = true from f) | (cases h' <;> first | exact Bool.noConfusion (show false = true from f') | rfl)
    · cases e <;> first | exact Bool.noConfusion (show false = true from f') | exact h'.elim
  · cases d <;> first | exact Bool.noConfusion (show false = true from f) | exact h.elim
theorem flats {S : Sg} {F : Hp} {x : V} {a : D} {H : Hp} (hx : DatR S F H x a) (fx : flat a = true) : ∀ {xs : List V} {ds : List D}, Dats S F xs ds → ds.all flat = true → xs.all flatV = true ∧ inV x xs = ds.any fun z => eqB z a
  | _, _, .nil, _ => ⟨rfl, rfl⟩
  | v :: vs, d :: ds, .cons h t, f => by
    rw [List.all_cons, Bool.and_eq_true] at f
    obtain ⟨k1, k2⟩ := flats hx fx t f.2
    refine ⟨by rw [List.all_cons, Bool.and_eq_true]; exact ⟨flat_V (H := H) (.inl h) f.1, k1⟩, ?_⟩
    show (eqV v x || inV x vs) = (eqB d a || ds.any _)
    rw [k2, flat_eq (H := H) (.inl h) f.1 hx fx]
theorem d_inT : OpR X (compareOp .In) (rD (Sx X) (inT false)) := OpR.imp op_in_seq fun x y H Q ⟨F, a, b, d, fh, da, db, e, q⟩ => by
  cases b with
  | tup ds =>
    have e' : (if flat a = true ∧ ds.all flat = true then some (D.bl (ds.any fun z => eqB z a)) else none) = some d := e
    by_cases hp : flat a = true ∧ ds.all flat = true
    · rw [if_pos hp] at e'
      cases e'
      obtain ⟨p, xs, rfl, h1, h2, h3, _⟩ := datR_tup fh db
      obtain ⟨k1, k2⟩ := flats da hp.1 h2 hp.2
      exact ⟨p, xs, rfl, .inr h1, flat_V da hp.1, k1, by rw [k2]; exact q _ F H (Ext.refl fh) (.bl _)⟩
    · rw [if_neg hp] at e'
      cases e'
  | _ => cases e
theorem d_notInT : OpR X (compareOp .NotIn) (rD (Sx X) (inT true)) := OpR.imp op_notIn_seq fun x y H Q ⟨F, a, b, d, fh, da, db, e, q⟩ => by
  cases b with
  | tup ds =>
    have e' : (if flat a = true ∧ ds.all flat = true then some (D.bl (!ds.any fun z => eqB z a)) else none) = some d := e
    by_cases hp : flat a = true ∧ ds.all flat = true
    · rw [if_pos hp] at e'
      cases e'
      obtain ⟨p, xs, rfl, h1, h2, h3, _⟩ := datR_tup fh db
      obtain ⟨k1, k2⟩ := flats da hp.1 h2 hp.2
      exact ⟨p, xs, rfl, .inr h1, flat_V da hp.1, k1, by rw [k2]; exact q _ F H (Ext.refl fh) (.bl _)⟩
    · rw [if_neg hp] at e'
      cases e'
  | _ => cases e
/-! one sign in a text -/
def inS (neg : Bool) : D → D → Option D := fun a b => match a, b with
  | .str x, .str z => (match x.cps.toList with
    | [c] => some (.bl (let r := decide (c ∈ z.cps.toList); if neg then !r else r))
    | _ => none)
  | _, _ => none
theorem one_sign {x : Str} {c : Nat} (h : x.cps.toList = [c]) : x = ⟨#[c]⟩ := by
  obtain ⟨a⟩ := x
  have : a = #[c] := by
    apply Array.ext'
    exact h
  rw [this]
theorem d_inS : OpR X (compareOp .In) (rD (Sx X) (inS false)) := OpR.imp op_in_sign fun x y H Q ⟨F, a, b, d, fh, da, db, e, q⟩ => by
  unfold inS at e
  split at e
  · rename_i s z
    split at e
    · rename_i c hc
      cases e
      obtain ⟨rfl, _⟩ := datR_str da
      obtain ⟨rfl, _⟩ := datR_str db
      exact ⟨c, z, by rw [one_sign hc], rfl, q _ F H (Ext.refl fh) (.bl _)⟩
    · cases e
  · cases e
theorem d_notInS : OpR X (compareOp .NotIn) (rD (Sx X) (inS true)) := OpR.imp op_notIn_sign fun x y H Q ⟨F, a, b, d, fh, da, db, e, q⟩ => by
  unfold inS at e
  split at e
  · rename_i s z
    split at e
    · rename_i c hc
      cases e
      obtain ⟨rfl, _⟩ := datR_str da
      obtain ⟨rfl, _⟩ := datR_str db
      exact ⟨c, z, by rw [one_sign hc], rfl, q _ F H (Ext.refl fh) (.bl _)⟩
    · cases e
  · cases e
def inD (neg : Bool) : D → D → Option D := orD (inT neg) (orD (inL neg) (inS neg))
theorem d_in (hu : X.A.units + 65 < cLine) : OpR X (compareOp .In) (rD (Sx X) (inD false)) := OpR.orD d_inT (OpR.orD (d_inL hu) d_inS)
theorem d_notIn (hu : X.A.units + 65 < cLine) : OpR X (compareOp .NotIn) (rD (Sx X) (inD true)) := OpR.orD d_notInT (OpR.orD (d_notInL hu) d_notInS)
/-! ### the whole + -/
theorem OpR.share {op : Value → Value → Sem Value} {f : D → D → Option D} (h : OpR X op (rDN (Sx X) f)) : OpR X op (rD (Sx X) f) := OpR.imp h fun x y H Q ⟨F, a, b, d, fh, da, db, e, q⟩ => by
  refine ⟨F, a, b, d, fh, da, db, e, fun p H' hp hh ow => ?_⟩
  have hF : F p = none := Same.free fh hp
  obtain ⟨o, ho, dd⟩ := ow.dat hF
  exact q _ _ _ ⟨same_new hF, hh, fun b u q => by
    by_cases hb : b = p
    · subst hb; rw [upd_same] at q; cases q; exact ho
    · rw [upd_ne hb] at q; exact hh _ _ (fh _ _ q), fun b h1 h2 => by
    by_cases hb : b = p
    · rw [hb]; exact hp
    · rw [upd_ne hb] at h2; exact absurd h1 h2⟩ dd
def addD : D → D → Option D := orD addI (orD addS (orD addT addL))
theorem d_add : OpR X (binaryOp .Add) (rD (Sx X) addD) := OpR.orD d_addI (OpR.orD d_addS (OpR.orD d_addT (OpR.share dN_addL)))
end
end DP
set_option Elab.async false
set_option linter.all false
set_option maxRecDepth 100000
set_option maxHeartbeats 2000000
/-! DP11: errors as data: made, raised, their fields; isinstance. -/
namespace DP
open PySem PySem.Spec L2
open PyProof.Rows hiding St

/-- what a class of errors must say -/
structure XcC (K : PySem.W.Frag) (C : Addr) : Prop where
  cl : (PySem.W.clsIn K C).isSome = true
  ga : PySem.W.findIn K (.ref C) "__getattribute__" = some (some (.builtin "BaseException.__getattribute__"))
  gg : PySem.W.findIn K (.ref C) "__getattr__" = some none
  sb : PySem.W.subIn K (.ref C) (.type "BaseException") = some true
  ty : PySem.W.typeIn K (.ref C) = some (.type "type")
  hd : PySem.W.hasDictIn K C = true
  ha : PySem.W.findIn K (.ref C) "__class__" = some (some (.builtin "object.__class__"))
  hm : PySem.W.mroIn K C (.type "object") = some true
  kC : PySem.W.keepIn K (.ref C) = true
/-- what object.__class__ must say -/
structure XgC (K : PySem.W.Frag) : Prop where
  hn : PySem.W.specialIn K (.builtin "object.__class__") "__get__" = some (some (.builtin "getset_descriptor.__get__"))
  ht : PySem.W.takesIn K (.builtin "object.__class__") = some true

/-! ### the type of data -/
def tyN : D → Option String
  | .non => some "NoneType"
  | .bl _ => some "bool"
  | .int _ => some "int"
  | .str _ => some "str"
  | .tup _ => some "tuple"
  | .lst _ => some "list"
  | .dic _ => some "dict"
  | _ => none
theorem tyx_of {S : Sg} {F H : Hp} (fh : Same F H) {v : V} {d : D} {n : String} (h : DatR S F H v d) (e : tyN d = some n) : TyX S.K H v (.type n) := by
  rcases h with h | ⟨a, rfl, h⟩
  · cases h with
    | non => cases e; exact .base .non
    | bl b => cases e; exact .base (.bl b)
    | int i => cases e; exact .base (.int i)
    | str q => cases e; exact .base (.str _)
    | tup q _ _ =>
      cases e
      rcases Same.seqT fh q with (q | ⟨o, q⟩) | ⟨o, its, n, q, c, _⟩
      · exact .base (.tup q)
      · exact .fTuple q
      · exact .kTuple q c
    | lst q _ _ =>
      cases e
      rcases Same.rd fh q with q | ⟨o, q⟩
      · exact .base (.lst q)
      · exact .base (.frz q)
    | dic q _ _ _ =>
      cases e
      rcases Same.rd fh q with q | ⟨o, q⟩
      · exact .base (.dK q)
      · exact .fDict q
    | _ => cases e
  · cases d with
    | lst ds => cases e; obtain ⟨xs, h1, _⟩ := h; exact .base (.lst h1)
    | dic ds => cases e; obtain ⟨xs, h1, _⟩ := h; exact .base (.dK h1)
    | _ => first | exact h.elim | cases e

/-- the answers of isinstance for one class: by the value's built-in type, by its own class -/
structure Cls1 where
  bt : String → Option Bool
  ow : Str → Option Bool
def isD (c : Cls1) : D → Option Bool
  | .exn n _ => c.ow n
  | d => (tyN d).bind c.bt
theorem isD_some {c : Cls1} {d : D} {b : Bool} (h : isD c d = some b) : (∃ n fs, d = .exn n fs ∧ c.ow n = some b) ∨ ∃ n, tyN d = some n ∧ c.bt n = some b := by
  cases d with
  | exn n fs => exact .inl ⟨n, fs, rfl, h⟩
  | _ => exact .inr (Option.bind_eq_some_iff.mp h)
def Cls1Ok (S : Sg) (u : Value) (c : Cls1) : Prop := (∀ n b, c.bt n = some b → PySem.W.kitOne S.K (.type n) u = some b) ∧ ∀ n b C, c.ow n = some b → S.T n = some C → XcC S.K C ∧ XgC S.K ∧ PySem.W.kitOne S.K (.ref C) u = some b
def eIs (c : Cls1) (m : M Op) : M D := fun e => (m e).bind fun o e => match look e o with
  | some d => (match isD c d with
    | some b => .ok (.bl b) e
    | none => .bad)
  | none => .bad
section
variable {X : Cx}
def rIsX (S : Sg) (u : Value) (c : Cls1) : List V → Hp → VK → Prop := fun xs H Q => ∃ F x y d b, Same F H ∧ xs = [x, y] ∧ ClsV y u ∧ DatR S F H x d ∧ isD c d = some b ∧ Q (.bl b) H
theorem exo_inst {P : Program} {w : World} {H : Hp} {h : Heap} {a C : Addr} {d : Option Addr} (hok : HOk P w H h) (e : H a = some (exo a C d)) (hd : ∀ dx, d = some dx → ∃ o, h.get? dx = some o) : ∃ ox od, PySem.W.InstAt h a ox C od := by
  obtain ⟨t1, ho⟩ := exo_at hok e
  cases d with
  | none => exact ⟨_, none, ho, rfl, rfl, trivial⟩
  | some dx =>
    obtain ⟨o, hdx⟩ := hd dx rfl
    exact ⟨_, some o, ho, rfl, rfl, hdx⟩
theorem call_isX {u : Value} {c : Cls1} (hc : Cls1Ok (Sx X) u c) : CallR X (.builtin "isinstance") (rIsX (Sx X) u c) := by
  intro pins s σ H xs us Q I r h
  obtain ⟨F, x, y, d, b, fh, rfl, k, da, hb, q⟩ := h
  rcases isD_some hb with ⟨n, fs, rfl, hb⟩ | ⟨n, hn, hbt⟩
  · rcases da with da | ⟨a, _, da⟩
    · obtain ⟨u1, u2, rfl, r1, r2⟩ := vals2 r
      have e2 := k.eq r2
      subst e2
      have key : ∀ {a C : Addr} {dx : Option Addr}, x = .ref a → (Sx X).T n = some C → F a = some (exo a C dx) → (∀ z, dx = some z → ∃ fs, F z = some (exd z fs)) → wpAny (model X.prog X.w) X.A (call (.builtin "isinstance") [u1, u2]) (EP X pins σ Q) X.xe s := fun {a C dx} ex hT hF hdx => by
        obtain ⟨h1, h2, h3⟩ := hc.2 n b C hb hT
        obtain ⟨ox, od, J⟩ := exo_inst I.hok (fh _ _ hF) (fun z hz => by
          obtain ⟨fs, hz2⟩ := hdx z hz
          obtain ⟨mA, ⟨o, _, _, e, _⟩, _⟩ := exd_at I.hok (fh _ _ hz2)
          exact ⟨o, e⟩)
        subst ex
        cases r1
        exact PySem.W.kia_one (PySem.W.kitx_exc (od := od) h1.cl h1.ga h1.gg h1.sb h1.ha h2.hn h2.ht h1.hm) I.kIn J h3 (fun z => nomatch z) fun tk => ⟨.bl b, H, I.kept (t' := tk) fun _ _ z => z, rfl, q⟩
      cases da with
      | exn0 hT hF => exact key rfl hT hF fun z hz => by cases hz
      | exn1 hT hF hF2 _ => exact key rfl hT hF fun z hz => by cases hz; exact ⟨_, hF2⟩
    · exact da.elim
  · exact call_isi pins s σ H _ us Q I r ⟨x, y, _, u, b, rfl, k, tyx_of fh da hn, hc.1 n b hbt, q⟩
variable {a : Expr} {p p2 pos : Pos}
theorem px_is {u : Value} {y : V} {c : Cls1} {m : M Op} {cn : Str} (hc : Cls1Ok (Sx X) u c) (ha : PY X a m) (hcl : PE X (.Name cn p2) (tC y)) (k : ClsV y u) (hm : X.mg "isinstance" = none) (hg : Gl X "isinstance" := by rfl)
    (hs1 : starEach [a, .Name cn p2] X.env = (false, eval a X.env) :: starEach [.Name cn p2] X.env := by rfl) (hpl : (backTo pos (starEach [.Name cn p2] X.env)).any (·.1) = false := by rfl) :
    PX X (.Call (.Name "isinstance" p) [a, .Name cn p2] [] pos) (eIs c m) := by
  refine ⟨fun cx W tk => PE.imp (pe_callB (call_isX hc) hg hm PyProof.Rows.boot_isinstance (pa_cons (ha.run cx W tk) (pa_cons hcl pa_nil) hs1) (by decide) (by decide) hs1 hpl) fun σ H Q ⟨F, e, r, q⟩ => ⟨F, e, r, ?_⟩⟩
  refine Okx.imp (Okx.bind q) fun o e1 k1 v F1 H1 r1 g1 od => ?_
  cases z : look e1 o with
  | none => simp only [z] at k1; exact k1.elim
  | some d =>
    simp only [z] at k1
    cases w : isD c d with
    | none => simp only [w] at k1; exact k1.elim
    | some b =>
      simp only [w] at k1
      exact ⟨F1, v, y, d, b, r1.fh, rfl, k, look_ok r1 od z, w, k1 _ F1 H1 r1 g1 (.bl b)⟩
end
end DP
set_option Elab.async false
set_option linter.all false
set_option maxRecDepth 100000
set_option maxHeartbeats 2000000
/-! DP12: errors made, raised; their fields. -/
namespace DP
open PySem PySem.Spec L2
open PyProof.Rows hiding St

abbrev veB : List Value := [.type "ValueError", .type "Exception", .type "BaseException", .type "object"]
/-- a class of errors without __init__ -/
structure Xc0 (K : PySem.W.Frag) (mg : Str → Option Value) (x : Str) : Prop where
  ex : ∃ C, mg x = some (.ref C) ∧ XcC K C ∧ PySem.W.excIn K C veB "ValueError.__new__" = true
/-- a class of errors whose __init__ keeps one argument in the field f -/
structure Xc1 (P : Program) (w : World) (K : PySem.W.Frag) (mg : Str → Option Value) (base : Heap) (x f : Str) : Prop where
  ex : ∃ C fI fd ps, mg x = some (.ref C) ∧ XcC K C ∧ OexC K C ∧ PySem.W.findIn K (.ref C) f = some none ∧ PySem.W.findIn K (.ref C) "__init__" = some (some (.ref fI)) ∧ PySem.W.typeIn K (.ref fI) = some (.type "function") ∧
    Binds K fd ps [] ∧ FnOk P w K mg base CX0 1 fI fd ps (fun vs H Q _ => ∃ (a C : Addr) (v : V), vs = [.ref a, v] ∧ OexC K C ∧ PySem.W.findIn K (.ref C) f = some none ∧ H a = some (exo a C none) ∧ ∀ dx, H dx = none → dx ≠ a → Q .non (upd (upd H dx (exd dx [(f, v)])) a (exo a C (some dx))))
theorem tS_at {K : PySem.W.Frag} {mg : Str → Option Value} {x : Str} {C : Addr} (h : mg x = some (.ref C)) : (sgOf K mg).T x = some C := by
  show (match mg x with
  | some (.ref C) => some C
  | _ => none) = some C
  rw [h]
/-- def __init__(self, f'): self.f = f' -/
theorem ok_xinit {P : Program} {w : World} {K : PySem.W.Frag} {mg : Str → Option Value} {base : Heap} {fI : Addr} {fd : FuncData} {qual : Str} {st : Stmt} {f n : Str} {q1 q2 q3 q4 : Pos} (F : Fun K "__init__" qual st fI fd) (Sc : FnScope ["self", n] ["self", n] (defScope st))
    (hb : defBody st = [.Assign [.Attribute (.Name "self" q1) f q2] (.Name n q3) q4]) (v0 : Vis (defScope st) "self") (v1 : Vis (defScope st) n) (hd1 : (n == ("__debug__" : Str)) = false) (hd2 : (n == ("__classdict__" : Str)) = false)
    (hs : ∀ env, swapsWith (.Name n q3) (some (.Attribute (.Name "self" q1) f q2)) q4.line env = pure false) :
    FnOk P w K mg base CX0 1 fI fd ["self", n] (fun vs H Q _ => ∃ (a C : Addr) (v : V), vs = [.ref a, v] ∧ OexC K C ∧ PySem.W.findIn K (.ref C) f = some none ∧ H a = some (exo a C none) ∧ ∀ dx, H dx = none → dx ≠ a → Q .non (upd (upd H dx (exd dx [(f, v)])) a (exo a C (some dx)))) := by
  refine F.ok Sc (fun vs H Q E h => ?_) (fun cdv A outer s H vs Q E hr h => ?_)
  · obtain ⟨a, C, v, rfl, _⟩ := h
    rfl
  · obtain ⟨a, C, v, rfl, hC, hf, hH, q⟩ := h
    rw [hb]
    refine ⟨_, pss_one (ps_ost (pe_var (i := 0) rfl v0 (by decide) (by decide)) (pe_var (i := 1) rfl v1 hd1 hd2) (hs _)), ?_⟩
    exact ⟨v, rfl, .ref a, rfl, a, C, rfl, hC, hf, .inl ⟨hH, fun dx h1 h2 => q dx h1 h2⟩⟩

section
variable {X : Cx} {x : Str} {a : Expr} {p pos rpos : Pos}
/-- X() -/
theorem mk0 {R : Value → Shared → Prop} {C : Addr} {s : Shared} {pins : List (Addr × Obj)} {σ : L2.St} {H : Hp} (I : Inv X pins σ H s) (gC : X.mg x = some (.ref C)) (c : XcC X.K C) (q : PySem.W.excIn X.K C veB "ValueError.__new__" = true) (hg : Gl X x) (hdb : (x == ("__debug__" : Str)) = false)
    (h : ∀ h' a, Heap.MadeExcOf s.heap h' a (.ref C) [] → R (.ref a) { s with heap := h' }) : wpAny (model X.prog X.w) X.A (eval (.Call (.Name x p) [] [] pos) X.env) R X.xe s := by
  refine wpAny_Call_Name_kw (ld_glob I hg gC ?_ hdb)
  refine PySem.W.callWith_K0 I.kIn c.kC ?_
  obtain ⟨bm, N, nm, qn, bs, hdct, sn, sub, ab, col, dd, k0, k1, k2, k3, k5, mN, hC, hN, hni, T⟩ := exc_obj I.kIn q
  obtain ⟨hp, g, dr, tk, os⟩ := s
  exact wpAny_call_exc_subT PySem.F.excBase_ValueError T hC hN hni (fun h' e hm => h h' e hm) (Nat.zero_le _)
def eExn0 (x : Str) : M D := fun e => .ok (.exn x []) e
theorem px_exn0 (c : Xc0 X.K X.mg x) (hg : Gl X x := by rfl) (hdb : (x == ("__debug__" : Str)) = false := by decide) : PX X (.Call (.Name x p) [] [] pos) (eExn0 x) := by
  obtain ⟨C, gC, c, q⟩ := c.ex
  refine ⟨fun cx W tk => ⟨fun pins s σ H Q I ⟨F, e, r, k⟩ => ?_⟩⟩
  refine mk0 I gC c q hg hdb fun h' a hm => ?_
  obtain ⟨t, ht, _, _⟩ := hm.there
  have hn : H a = none := I.hok.gone hm.new
  have J := I.laidN (o := exo a C none) (t' := s.toks) hm.keeps hm.new hn (exo_ok ht)
  have x : Ext F H (upd F a (exo a C none)) (upd H a (exo a C none)) := Ext.new r.fh hn
  exact ⟨.ref a, _, J, rfl, k _ _ _ (r.ext x) (r.gr x) (.exn0 (tS_at gC) upd_same)⟩
def sRaise0 (x : Str) : M Fl := fun e => .ex x [] e
theorem pd_raise0 (hc : X.calm = true) (c : Xc0 X.K X.mg x) (hg : Gl X x := by rfl) (hdb : (x == ("__debug__" : Str)) = false := by decide) : PSd X (.Raise (some (.Call (.Name x p) [] [] pos)) none rpos) (sRaise0 x) := by
  obtain ⟨C, gC, c, q⟩ := c.ex
  have mk : PMk X (.Call (.Name x p) [] [] pos) (fun _ H Q => Q (.ref C) none H) := fun pins s σ H Q I h =>
    mk0 I gC c q hg hdb fun h' a hm => mk_of I hm (raises_own c.sb c.ty) h (I.hok.gone hm.new)
  refine ⟨fun cx W tk pw => PS.imp (ps_raise hc tk mk) fun G σ H ⟨F, e, r, k⟩ => ?_⟩
  exact k (.ref C) none σ F H r Gr.refl ⟨C, tS_at gC, rfl, .inl ⟨rfl, rfl⟩⟩
/-! ### with a field -/
abbrev spXi (K : PySem.W.Frag) (f : Str) : Sp := fun vs H Q _ => ∃ (a C : Addr) (v : V), vs = [.ref a, v] ∧ OexC K C ∧ PySem.W.findIn K (.ref C) f = some none ∧ H a = some (exo a C none) ∧ ∀ dx, H dx = none → dx ≠ a → Q .non (upd (upd H dx (exd dx [(f, v)])) a (exo a C (some dx)))
/-- X(e) as a value -/
def tNewX (C : Addr) (f : Str) (te : TE) : TE := fun σ H Q => te σ H fun x H1 => ∃ v, [x] = [v] ∧ ∀ a dx, H1 a = none → H1 dx = none → dx ≠ a → Q (.ref a) (upd (upd (upd H1 a (exo a C none)) dx (exd dx [(f, v)])) a (exo a C (some dx)))
theorem pe_newX {C fI : Addr} {fd : FuncData} {ps : List Str} {f : Str} {te : TE} {k : Nat} (T : OexC X.K C) (nf : PySem.W.findIn X.K (.ref C) f = some none) (iC : PySem.W.findIn X.K (.ref C) "__init__" = some (some (.ref fI))) (tI : PySem.W.typeIn X.K (.ref fI) = some (.type "function"))
    (F1 : FnOk X.prog X.w X.K X.mg X.base CX0 1 fI fd ps (spXi X.K f)) (hr : Room (k + 2) X.A) (hb : Binds X.K fd ps []) (hg : Gl X x) (hm : X.mg x = some (.ref C)) (ha : PE X a te)
    (hdb : (x == ("__debug__" : Str)) = false) (he : starEach [a] X.env = (false, eval a X.env) :: starEach [] X.env) (hpl : (backTo pos (starEach [] X.env)).any (·.1) = false) :
    PE X (.Call (.Name x p) [a] [] pos) (tNewX C f te) := by
  refine ⟨fun pins s σ H Q I h => ?_⟩
  obtain ⟨nm, q, N, bs, bm, sn, sub, ab, col, dd, k0, k1, k2, k3, k5, hC, hbm⟩ := T.cls
  have pa : PA X [a] (tCons te tNil) := pa_cons ha pa_nil he
  refine wpAny_Call_Name_kw (ld_glob I hg hm ?_ hdb)
  refine PySem.W.callWith_K (h₀ := X.base) I.ok.mod.kin T.kC (thn (pa.run pos pins s σ H (fun vs H1 => ∃ v, vs = [v] ∧ ∀ a dx, H1 a = none → H1 dx = none → dx ≠ a → Q (.ref a) (upd (upd (upd H1 a (exo a C none)) dx (exd dx [(f, v)])) a (exo a C (some dx)))) I h) fun us s1 ⟨vs, H1, I1, r1, v, ev, q1⟩ => ⟨I1.kIn, ?_⟩) he hpl
  subst ev
  show wpAny _ _ (call (.ref C) us) _ _ _
  obtain ⟨hp, g, dr, tk, os⟩ := s1
  have hsz : hp.objs.size ≤ hp.objs.size + 1 := Nat.le_succ _
  have hn : H1 (hp.objs.size + 1) = none := I1.hok.fresh hsz
  have kk : ∀ b o, hp.get? b = some o → ((hp.push (PySem.W.kdv_tup us)).push (PySem.HandSPX.excO C hp.objs.size)).get? b = some o := fun b o e => Heap.get?_push_of_some _ (Heap.get?_push_of_some _ e)
  have hget : ((hp.push (PySem.W.kdv_tup us)).push (PySem.HandSPX.excO C hp.objs.size)).get? (hp.objs.size + 1) = some (PySem.HandSPX.excO C hp.objs.size) := by heap_get
  have I2 : Inv X pins σ (upd H1 (hp.objs.size + 1) (exo (hp.objs.size + 1) C none)) ⟨(hp.push (PySem.W.kdv_tup us)).push (PySem.HandSPX.excO C hp.objs.size), g, dr, tk, os⟩ :=
    I1.laid (t' := tk) (a := hp.objs.size + 1) (o := exo (hp.objs.size + 1) C none) (h' := (hp.push (PySem.W.kdv_tup us)).push (PySem.HandSPX.excO C hp.objs.size)) kk hsz (exo_ok hget)
  have r2 : Vals [V.ref (hp.objs.size + 1), v] (Value.ref (hp.objs.size + 1) :: us) := .cons rfl r1
  have hq : spXi X.K f [V.ref (hp.objs.size + 1), v] (upd H1 (hp.objs.size + 1) (exo (hp.objs.size + 1) C none)) (fun w H2 => w = .non ∧ Q (.ref (hp.objs.size + 1)) H2) (fun _ _ _ => False) :=
    ⟨hp.objs.size + 1, C, v, rfl, T, nf, upd_same, fun dx h1 h2 => ⟨rfl, q1 _ dx hn (by rw [upd_ne h2] at h1; exact h1) h2⟩⟩
  have hl : (Value.ref (hp.objs.size + 1) :: us ++ []).length = ps.length := by
    have e := r2.length
    rw [F1.len _ _ _ _ hq] at e
    rw [List.append_nil]
    exact e.symm
  have hus : us.length ≤ sizeLine := by
    rw [← Paired.length r1, sizeLine_eq]
    show 1 ≤ _
    omega
  refine wpAny_call (PySem.HandSPX.call_own PySem.F.excBase_ValueError (fun Y => PySem.HandSPX.refsVE_contains Y bm hbm) (I1.kIn _ _ hC) (PySem.W.looks_findIn I1.kIn iC) (fun self => PySem.W.bind_fn I1.kIn self tI) hus
    (codeAny_mono (F1.run _ X.stack _ _ ⟨Value.ref (hp.objs.size + 1) :: us, []⟩ (Value.ref (hp.objs.size + 1) :: us) _ _ (fun _ _ _ => False) ((hr.mono (by omega : 1 + 1 ≤ k + 2)).make C us []) (I2.env0.make C us []) (by
      have := hb _ (Value.ref (hp.objs.size + 1) :: us) I2.kIn hl
      rw [List.append_nil] at this
      exact this) r2 hq) fun r s' hq' => ?_))
  cases r with
  | error er => exact hq'.elim
  | ok fl =>
    cases fl with
    | ret u =>
      obtain ⟨v2, H2, os2, bare2, un2, hok2, rv, ev, qq⟩ := hq'
      subst ev
      refine ⟨rv, ?_⟩
      obtain ⟨w, H3, J, rw', q3⟩ := I2.after (Q := fun w H2 => w = V.ref (hp.objs.size + 1) ∧ Q (.ref (hp.objs.size + 1)) H2) (u := Value.ref (hp.objs.size + 1)) ⟨V.ref (hp.objs.size + 1), H2, os2, bare2, un2, hok2, rfl, rfl, qq⟩
      exact ⟨.ref (hp.objs.size + 1), H3, J, rfl, q3.2⟩
    | next => exact False.elim hq'
    | brk => exact False.elim hq'
    | cont => exact False.elim hq'
theorem ext2 {F H : Hp} (fh : Same F H) {a dx : Addr} {o1 o2 o3 : HO} (ha : H a = none) (hd : H dx = none) (ne : dx ≠ a) : Ext F H (upd (upd F dx o2) a o3) (upd (upd (upd H a o1) dx o2) a o3) := by
  have e : upd (upd (upd H a o1) dx o2) a o3 = upd (upd H dx o2) a o3 := by
    funext b
    by_cases h1 : b = a
    · rw [h1, upd_same, upd_same]
    · rw [upd_ne h1, upd_ne h1]
      by_cases h2 : b = dx
      · rw [h2, upd_same, upd_same]
      · rw [upd_ne h2, upd_ne h2, upd_ne h1]
  rw [e]
  have x1 : Ext F H (upd F dx o2) (upd H dx o2) := Ext.new fh hd
  exact x1.trans (Ext.new x1.fh (by rw [upd_ne (Ne.symm ne)]; exact ha))
def eExn1 (x f : Str) (m : M D) : M D := fun e => (m e).bind fun d e => .ok (.exn x [(f, d)]) e
theorem px_exn1 {f : Str} {m : M D} {k : Nat} (c : Xc1 X.prog X.w X.K X.mg X.base x f) (hr : Room (k + 2) X.A) (h : PX X a m) (hg : Gl X x := by rfl) (hdb : (x == ("__debug__" : Str)) = false := by decide) (he : starEach [a] X.env = (false, eval a X.env) :: starEach [] X.env := by rfl)
    (hpl : (backTo pos (starEach [] X.env)).any (·.1) = false := by rfl) : PX X (.Call (.Name x p) [a] [] pos) (eExn1 x f m) := by
  obtain ⟨C, fI, fd, ps, gC, c, T, nf, iC, tI, hb, F1⟩ := c.ex
  refine ⟨fun cx W tk => PE.imp (pe_newX T nf iC tI F1 hr hb hg gC (h.run cx W tk) hdb he hpl) fun σ H Q ⟨F, e, r, q⟩ => ⟨F, e, r, ?_⟩⟩
  refine Okx.imp (Okx.bind q) fun d e1 k1 v F1 H1 r1 g1 dv => ⟨v, rfl, fun a dx ha hd ne => ?_⟩
  have x := ext2 (o1 := exo a C none) (o2 := exd dx [(f, v)]) (o3 := exo a C (some dx)) r1.fh ha hd ne
  exact k1 _ _ _ (r1.ext x) (g1.trans (r1.gr x)) (.exn1 (tS_at gC) upd_same (by rw [upd_ne ne, upd_same]) (Dats.one (dv.mono x.ff)))
def sRaise1 (x f : Str) (m : M D) : M Fl := fun e => (m e).bind fun d e => .ex x [(f, d)] e
theorem xd_old {F H : Hp} {d : Addr} {o : HO} (fh : Same F H) (hd : H d = none) : Ext F H F (upd H d o) := Ext.newO fh hd
theorem pd_raise1 {f : Str} {m : M D} {k : Nat} (hc : X.calm = true) (c : Xc1 X.prog X.w X.K X.mg X.base x f) (hr : Room (k + 2) X.A) (h : PX X a m) (hg : Gl X x := by rfl) (hdb : (x == ("__debug__" : Str)) = false := by decide)
    (he : starEach [a] X.env = (false, eval a X.env) :: starEach [] X.env := by rfl) (hpl : (backTo pos (starEach [] X.env)).any (·.1) = false := by rfl) : PSd X (.Raise (some (.Call (.Name x p) [a] [] pos)) none rpos) (sRaise1 x f m) := by
  obtain ⟨C, fI, fd, ps, gC, c, T, nf, iC, tI, hb, F1⟩ := c.ex
  refine ⟨fun cx W tk pw => PS.imp (ps_raise hc tk (pmk_oex (dvs := []) T iC tI F1 (hr.mono (by omega : 1 + 1 ≤ k + 2)) hb .nil pass0 hg gC (pa_cons (h.run cx W tk) pa_nil he) hdb he hpl)) fun G σ H ⟨F, e, r, q⟩ => ⟨F, e, r, ?_⟩⟩
  refine Okx.imp (Okx.bind q) fun d e1 k1 v F1 H1 r1 g1 dv => ⟨by show 1 ≤ 1000; omega, fun a ha => ?_⟩
  refine ⟨a, C, v, rfl, T, nf, upd_same, fun dx h1 h2 => ⟨rfl, dx, [(f, v)], upd_same, by rw [upd_ne h2, upd_same], by rw [upd_ne h2] at h1; exact h1, ?_⟩⟩
  have hd : H1 dx = none := by rw [upd_ne h2] at h1; exact h1
  have eH : upd (L2.del (upd (upd (upd H1 a (exo a C none)) dx (exd dx [(f, v)])) a (exo a C (some dx))) a) dx (.xd [(f, v)]) = upd H1 dx (.xd [(f, v)]) := by
    funext b
    by_cases h3 : b = dx
    · rw [h3, upd_same, upd_same]
    · rw [upd_ne h3, upd_ne h3]
      by_cases h4 : b = a
      · rw [h4, L2.del_same]; exact ha.symm
      · rw [L2.del_ne h4, upd_ne h4, upd_ne h3, upd_ne h4]
  rw [eH]
  exact k1 (.ref C) (some dx) σ F1 _ (r1.ext (Ext.newO r1.fh hd)) g1 ⟨C, tS_at gC, rfl, .inr ⟨dx, f, v, d, rfl, rfl, upd_same, Dats.one dv⟩⟩
/-! ### e.f of an error -/
def fldX (ok : Str → Bool) (f : Str) : D → Option D
  | .exn n fs => if ok n = true then fs.lookup f else none
  | _ => none
def eFldX (ok : Str → Bool) (f : Str) (m : M D) : M D := fun e => (m e).bind fun d e => match fldX ok f d with
  | some z => .ok z e
  | none => .bad
def tFldX (S : Sg) (ok : Str → Bool) (f : Str) (te : TE) : TE := fun σ H Q => te σ H fun x H1 => ∃ F d z, Same F H1 ∧ Dat S F x d ∧ fldX ok f d = some z ∧ ∀ v, Dat S F v z → Q v H1
theorem pe_fldX {ok : Str → Bool} {f : Str} {te : TE} (hok : ∀ n C, ok n = true → (Sx X).T n = some C → XcC X.K C ∧ PySem.W.findIn X.K (.ref C) f = some none) (h : PE X a te)
    (hb : attributeBase a f X.env (eval a X.env) = eval a X.env) : PE X (.Attribute a f pos) (tFldX (Sx X) ok f te) := by
  refine ⟨fun pins s σ H Q I hq => ?_⟩
  refine attr_of hb (thn (h.run pins s σ H _ I hq) fun u s1 hh => ?_)
  obtain ⟨y, H1, I1, rx, F, d, z, fh, dv, hz, q⟩ := hh
  cases d with
  | exn n fs =>
    have hz' : (if ok n = true then fs.lookup f else none) = some z := hz
    by_cases hn : ok n = true
    · rw [if_pos hn] at hz'
      cases dv with
      | exn0 hT hF => cases hz'
      | @exn1 a C dx c g v z' hT hF hF2 hd =>
        obtain ⟨c, nf⟩ := hok n C hn hT
        obtain rfl : u = Value.ref a := rx
        obtain ⟨t1, ho⟩ := exo_at I1.hok (fh _ _ hF)
        obtain ⟨mA, hns, hr⟩ := exd_at I1.hok (fh _ _ hF2)
        obtain ⟨od, hod, hl⟩ := lookIn_ns hns
        have lk : List.lookup f [(g, v)] = some v ∧ z = z' := by
          by_cases hg : f = g
          · subst hg
            have : List.lookup f [(f, z')] = some z' := by simp [List.lookup]
            rw [this] at hz'
            exact ⟨by simp [List.lookup], (Option.some.inj hz').symm⟩
          · have e2 : (f == g) = false := by simpa using hg
            have : List.lookup f [(g, z')] = none := by simp [List.lookup, e2]
            rw [this] at hz'
            cases hz'
        obtain ⟨lk, rfl⟩ := lk
        obtain ⟨w, hu, rw'⟩ := RelO.some_of (v := v) (o := mA f) (by rw [← lk]; exact hr f)
        cases hd with
        | cons hd _ =>
          have J : PySem.W.InstAt s1.heap a _ C (some od) := ⟨ho, rfl, rfl, hod⟩
          exact PySem.HandSPX.exc_get I1.kIn J c.ga c.gg c.sb (PySem.W.findObj_own c.hd nf rfl (by rw [hl, hu])) (handed_of rw') ⟨v, H1, I1.tok _, rw', q v hd⟩
    · rw [if_neg hn] at hz'
      cases hz'
  | _ => cases hz
theorem px_fldX {ok : Str → Bool} {f : Str} {m : M D} (hok : ∀ n C, ok n = true → (Sx X).T n = some C → XcC X.K C ∧ PySem.W.findIn X.K (.ref C) f = some none) (h : PX X a m)
    (hb : attributeBase a f X.env (eval a X.env) = eval a X.env := by rfl) : PX X (.Attribute a f pos) (eFldX ok f m) := by
  refine ⟨fun cx W tk => PE.imp (pe_fldX hok (h.run cx W tk) hb) fun σ H Q ⟨F, e, r, q⟩ => ⟨F, e, r, ?_⟩⟩
  refine Okx.imp (Okx.bind q) fun d e1 k1 v F1 H1 r1 g1 dv => ?_
  cases z : fldX ok f d with
  | none => simp only [z] at k1; exact k1.elim
  | some y =>
    simp only [z] at k1
    exact ⟨F1, d, y, r1.fh, dv, z, fun v dv => k1 v F1 H1 r1 g1 dv⟩
end
end DP
set_option Elab.async false
set_option linter.all false
set_option maxRecDepth 100000
set_option maxHeartbeats 2000000
/-! DP13: texts joined; constants of the module; slices. -/
namespace DP
open PySem PySem.Spec L2
open PyProof.Rows hiding St

def strsD : List D → Option (List Str)
  | [] => some []
  | .str x :: ds => (strsD ds).map (x :: ·)
  | _ :: _ => none
theorem strs_ok {S : Sg} {F : Hp} : ∀ {vs : List V} {ds : List D} {ys : List Str}, Dats S F vs ds → strsD ds = some ys → vs = ys.map V.str ∧ ∀ y ∈ ys, sOk y
  | _, _, ys, .nil, h => by
    have h' : some [] = some ys := h
    cases h'
    exact ⟨rfl, fun y hy => by cases hy⟩
  | _, d :: ds, ys, .cons hd ht, h => by
    cases d with
    | str x =>
      have h' : (strsD ds).map (x :: ·) = some ys := h
      obtain ⟨zs, hz, rfl⟩ := Option.map_eq_some_iff.mp h'
      obtain ⟨e, k⟩ := strs_ok ht hz
      cases hd with
      | str q =>
        refine ⟨by rw [e]; rfl, fun y hy => ?_⟩
        rcases List.mem_cons.mp hy with rfl | hy
        · exact q
        · exact k y hy
    | _ => cases h
theorem sOk_list {x : Str} : sOk x ↔ x.cps.toList.length ≤ sizeLine ∧ ∀ c ∈ x.cps.toList, c < 0x110000 := by
  unfold sOk PyData.strOk
  rw [← Array.all_toList, List.all_eq_true]
  simp [Str.length]
theorem joinL_ok {S : List Nat} (hS : ∀ c ∈ S, c < 0x110000) : ∀ {ls : List (List Nat)}, (∀ l ∈ ls, ∀ c ∈ l, c < 0x110000) → (∀ c ∈ TL.joinL S ls, c < 0x110000) ∧ (TL.joinL S ls).length ≤ (ls.map (·.length)).sum + ls.length * S.length
  | [], _ => ⟨(fun c hc => by cases hc), Nat.zero_le _⟩
  | [p], h => ⟨fun c hc => h p List.mem_cons_self c hc, by simp [TL.joinL]⟩
  | p :: q :: r, h => by
    obtain ⟨h1, h2⟩ := joinL_ok (ls := q :: r) hS fun l hl => h l (List.mem_cons_of_mem _ hl)
    refine ⟨fun c hc => ?_, ?_⟩
    · have hc' : c ∈ p ++ (S ++ TL.joinL S (q :: r)) := hc
      rcases List.mem_append.mp hc' with z | z
      · exact h p List.mem_cons_self c z
      · rcases List.mem_append.mp z with z | z
        · exact hS c z
        · exact h1 c z
    · show (p ++ (S ++ TL.joinL S (q :: r))).length ≤ _
      rw [List.length_append, List.length_append]
      simp only [List.map_cons, List.sum_cons, List.length_cons] at h2 ⊢
      have e : (r.length + 1 + 1) * S.length = (r.length + 1) * S.length + S.length := Nat.succ_mul _ _
      omega
theorem sOk_join {a : Str} {ys : List Str} (ha : sOk a) (hy : ∀ y ∈ ys, sOk y) (hz : (ys.map (·.length)).sum + ys.length * a.length ≤ 16777216) : sOk (Txt.join a ys) := by
  rw [sOk_list] at ha ⊢
  rw [TL.join_eq]
  have e : (Str.join a ys).cps.toList = TL.joinL (TL.tl a) (ys.map TL.tl) := TL.tl_join a ys
  rw [e]
  obtain ⟨h1, h2⟩ := joinL_ok (S := TL.tl a) (ls := ys.map TL.tl) ha.2 (fun l hl => by
    obtain ⟨y, hy1, rfl⟩ := List.mem_map.mp hl
    exact (sOk_list.mp (hy y hy1)).2)
  refine ⟨Nat.le_trans h2 ?_, h1⟩
  have e1 : (ys.map TL.tl).map (·.length) = ys.map (·.length) := by
    rw [List.map_map]
    refine List.map_congr_left fun y _ => ?_
    show y.cps.toList.length = y.cps.size
    simp
  have e2 : (TL.tl a).length = a.length := by
    show a.cps.toList.length = a.cps.size
    simp
  rw [e1, e2, List.length_map, sizeLine_eq]
  exact hz
def joinD (a : Str) : D → Option D
  | .lst ds => (strsD ds).bind fun ys => if (ys.map (·.length)).sum + ys.length * a.length ≤ 16777216 then some (.str (Txt.join a ys)) else none
  | _ => none
/-- a.join(e), a written text -/
def eJoin (a : Str) (m : M Op) : M D := fun e => (m e).bind fun o e => match look e o with
  | some d => (match joinD a d with
    | some z => .ok z e
    | none => .bad)
  | none => .bad
section
variable {X : Cx} {a : Expr} {pos p apos : Pos}
theorem px_join {t : Str} {j : Nat} {m : M Op} (h : PY X a m) (ht : sOk t := by exact ⟨by decide +kernel, by decide +kernel⟩) (hs : starEach [a] X.env = [(false, eval a X.env)] := by rfl)
    (hbase : attributeBase (.Constant (.str t) j p) "join" X.env (eval (.Constant (.str t) j p) X.env) = eval (.Constant (.str t) j p) X.env := by rfl) (hline : (apos.endLine == pos.line) = true := by rfl) :
    PX X (.Call (.Attribute (.Constant (.str t) j p) "join" apos) [a] [] pos) (eJoin t m) := by
  refine ⟨fun cx W tk => PE.imp (pe_join (pe_str) (h.run cx W tk) hs hbase hline) fun σ H Q ⟨F, e, r, q⟩ => ?_⟩
  refine ⟨⟨t, rfl⟩, F, e, r, Okx.imp (Okx.bind q) fun o e1 k1 v F1 H1 r1 g1 od => ?_⟩
  cases z : look e1 o with
  | none => simp only [z] at k1; exact k1.elim
  | some d =>
    simp only [z] at k1
    cases w : joinD t d with
    | none => simp only [w] at k1; exact k1.elim
    | some y =>
      simp only [w] at k1
      have dd := look_ok r1 od z
      cases d with
      | lst ds =>
        have w' : ((strsD ds).bind fun ys => if (ys.map (·.length)).sum + ys.length * t.length ≤ 16777216 then some (D.str (Txt.join t ys)) else none) = some y := w
        obtain ⟨ys, hy, hz⟩ := Option.bind_eq_some_iff.mp w'
        by_cases hl : (ys.map (·.length)).sum + ys.length * t.length ≤ 16777216
        · rw [if_pos hl] at hz
          cases hz
          obtain ⟨b, xs, rfl, h1, h2, h3⟩ := datR_lst r1.fh dd
          obtain ⟨e, k⟩ := strs_ok h2 hy
          subst e
          exact ⟨t, b, ys, rfl, rfl, .inl (.inl h1), hl, k1 _ F1 H1 r1 g1 (.str (sOk_join ht k hl))⟩
        · rw [if_neg hl] at hz
          cases hz
      | _ => cases w
/-! ### constants of the module -/
theorem px_globI {x : Str} {i : Int} {t : Tok} (hm : X.mg x = some (.int i t)) (hg : Gl X x := by rfl) (hd : (x == ("__debug__" : Str)) = false := by decide) : PX X (.Name x pos) (eCst (.int i)) := px_cst (pe_glob (v := V.int i) hg hm ⟨_, rfl⟩ hd) fun F => .int i
theorem px_globS {x z : Str} {t : Tok} (hm : X.mg x = some (.str z t)) (hz : sOk z) (hg : Gl X x := by rfl) (hd : (x == ("__debug__" : Str)) = false := by decide) : PX X (.Name x pos) (eCst (.str z)) := px_cst (pe_glob (v := V.str z) hg hm ⟨_, rfl⟩ hd) fun F => .str hz
end
end DP
set_option Elab.async false
set_option linter.all false
set_option maxRecDepth 100000
set_option maxHeartbeats 2000000
/-! DP14: the head's facts. -/
namespace DP
open PySem PySem.Spec L2
open PyProof.Rows hiding St

/-! ### the hook: checks of the part of the heap that the module's names reach, and its defs -/
abbrev Ck : Type := PySem.W.Frag → Bool
abbrev HkT : Type := List Bool × List He.FnW
def obsE (ck : List Ck) (fn : List He.DefD) (K : PySem.W.Frag) : HkT := ((ck.map fun f => f K) ++ (fn.map fun d => d.ok K), fn.map fun d => He.fnW K d.at_)
def valE (ck : List Ck) (fn : List He.DefD) : HkT := ((ck.map fun _ => true) ++ (fn.map fun _ => true), fn.map He.DefD.val)
def SaysE (ck : List Ck) (fn : List He.DefD) (K : PySem.W.Frag) : Prop := obsE ck fn K = valE ck fn
def obsEG (n : Nat) (ck : List Ck) (fn : List He.DefD) (g : Addr → Option Obj) : HkT := obsE ck fn (He.frG g (He.asD g n))
def hookE (n : Nat) (ck : List Ck) (fn : List He.DefD) : PySem.W.Hook where
  α := HkT
  obs := fun s => obsEG n ck fn s.heap.get?
  val := fun _ => valE ck fn
  says := fun _ h => ∃ K : PySem.W.Frag, K.In h ∧ SaysE ck fn K
  of := fun _ _ e => ⟨_, He.frG_in, e⟩
  keeps := fun _ _ _ ⟨K, hK, c⟩ k => ⟨K, PySem.W.Frag.In.keeps hK k, c⟩
theorem obsEG_eq {n : Nat} {ck : List Ck} {fn : List He.DefD} {g : Addr → Option Obj} {s : Shared} (h : ∀ a, g a = s.heap.get? a) : obsEG n ck fn g = (hookE n ck fn).obs s := by
  have e : g = s.heap.get? := funext h
  rw [e] <;> rfl
section
variable {ck : List Ck} {fn : List He.DefD} {K : PySem.W.Frag}
theorem SaysE.mem (c : SaysE ck fn K) {f : Ck} (h : f ∈ ck) : f K = true := by
  have c1 : (ck.map fun f => f K) ++ (fn.map fun d => d.ok K) = (ck.map fun _ => true) ++ (fn.map fun _ => true) := congrArg (fun z : HkT => z.1) c
  have c2 := List.append_inj_left c1 (by rw [List.length_map, List.length_map])
  obtain ⟨i, hi, e⟩ := List.getElem_of_mem h
  have c3 : (ck.map fun f => f K)[i]? = (ck.map fun _ => true)[i]? := by rw [c2]
  rw [List.getElem?_map, List.getElem?_map, List.getElem?_eq_getElem hi] at c3
  have c4 : ck[i] K = true := Option.some.inj c3
  rw [e] at c4
  exact c4
theorem SaysE.at (c : SaysE ck fn K) (i : Nat) {f : Ck} (h : ck[i]? = some f := by rfl) : f K = true := c.mem (List.mem_of_getElem? h)
theorem SaysE.def_ (c : SaysE ck fn K) (i : Nat) {d : He.DefD} (h : fn[i]? = some d := by rfl) : ∃ fd, FunD K d.name d.qual d.params d.body d.scope (d.dvs K) (d.kws K) (He.fAd K d.at_) fd := by
  have c1 : (ck.map fun f => f K) ++ (fn.map fun d => d.ok K) = (ck.map fun _ => true) ++ (fn.map fun _ => true) := congrArg (fun z : HkT => z.1) c
  have c2 := List.append_inj_right c1 (by rw [List.length_map, List.length_map])
  have c3 : (fn.map fun d => d.ok K)[i]? = (fn.map fun _ => true)[i]? := by rw [c2]
  rw [List.getElem?_map, List.getElem?_map, h] at c3
  have c4 : d.ok K = true := Option.some.inj c3
  have e : fn.map (fun d => He.fnW K d.at_) = fn.map He.DefD.val := congrArg (fun z : HkT => z.2) c
  have e2 : (fn.map fun d => He.fnW K d.at_)[i]? = (fn.map He.DefD.val)[i]? := by rw [e]
  rw [List.getElem?_map, List.getElem?_map, h] at e2
  exact He.DefD.funD (Option.some.inj e2) c4
end
/-- a plain def of the top -/
def dTop (x : Str) (st : Stmt) : He.DefD := ⟨(x, none), x, x, defArgs st, defBody st, defScope st, [], []⟩
/-- a method, without defaults -/
def dMeth (c m : Str) (q : Str) (st : Stmt) : He.DefD := ⟨(c, some m), m, q, defArgs st, defBody st, defScope st, [], []⟩
theorem fun_of {K : PySem.W.Frag} {x q : Str} {st : Stmt} {f : Addr} {fd : FuncData} (F : FunD K x q (defArgs st) (defBody st) (defScope st) [] [] f fd) : Fun K x q st f fd := by
  obtain ⟨oc, od, dV, kV, doc, pm, an, cdv, ct, osl, rfl, lk, hcd, hD, hK⟩ := F.ex
  rcases hD with ⟨_, rfl⟩ | ⟨e, _⟩
  · exact ⟨⟨oc, od, kV, doc, pm, an, cdv, ct, osl, rfl, lk, hcd⟩, F.kp⟩
  · exact absurd rfl e
/-- a def of the module's top, as it stands -/
def TopFn (K : PySem.W.Frag) (mg : Str → Option Value) (x : Str) (st : Stmt) : Prop := ∃ f fd, mg x = some (.ref f) ∧ Fun K x x st f fd

/-! ### checks -/
def ckGlo (x : Str) : Ck := fun K => (He.Fa.glo x).ok K
def ckFree (x : Str) : Ck := fun K => (He.Fa.free x).ok K
def xcB (K : PySem.W.Frag) (C : Addr) : Bool :=
  (PySem.W.clsIn K C).isSome && (decide (PySem.W.findIn K (.ref C) "__getattribute__" = some (some (.builtin "BaseException.__getattribute__"))) && (decide (PySem.W.findIn K (.ref C) "__getattr__" = some none) &&
  (decide (PySem.W.subIn K (.ref C) (.type "BaseException") = some true) && (decide (PySem.W.typeIn K (.ref C) = some (.type "type")) && (PySem.W.hasDictIn K C &&
  (decide (PySem.W.findIn K (.ref C) "__class__" = some (some (.builtin "object.__class__"))) && (decide (PySem.W.mroIn K C (.type "object") = some true) && PySem.W.keepIn K (.ref C))))))))
theorem xcB_ok {K : PySem.W.Frag} {C : Addr} (h : xcB K C = true) : XcC K C := by
  unfold xcB at h
  simp only [Bool.and_eq_true, decide_eq_true_eq] at h
  obtain ⟨h1, h2, h3, h4, h5, h6, h7, h8, h9⟩ := h
  exact ⟨h1, h2, h3, h4, h5, h6, h7, h8, h9⟩
def xgB (K : PySem.W.Frag) : Bool := decide (PySem.W.specialIn K (.builtin "object.__class__") "__get__" = some (some (.builtin "getset_descriptor.__get__"))) && decide (PySem.W.takesIn K (.builtin "object.__class__") = some true)
theorem xgB_ok {K : PySem.W.Frag} (h : xgB K = true) : XgC K := by
  unfold xgB at h
  simp only [Bool.and_eq_true, decide_eq_true_eq] at h
  exact ⟨h.1, h.2⟩
def oexB (K : PySem.W.Frag) (C : Addr) : Bool := (match K.lookup C with
  | some ⟨.type t, _, .cls cd, sl⟩ => decide (t = "type") && (cd.hasDict && (!cd.hasDel && ((match cd.mro with
      | .ref C' :: bm => decide (C' = C) && PySem.HandSPX.refsVE bm
      | _ => false) && (match sl.toList with
      | [_, _, _, _, some (.builtin n), _] => decide (n = "ValueError.__new__")
      | _ => false))))
  | _ => false) && decide (PySem.W.findIn K (.ref C) "__setattr__" = some (some (.builtin "object.__setattr__")))
theorem oexB_ok {K : PySem.W.Frag} {C : Addr} (c : XcC K C) (h : oexB K C = true) : OexC K C := by
  unfold oexB at h
  obtain ⟨h, h2⟩ := Bool.and_eq_true_iff.mp h
  refine ⟨?_, of_decide_eq_true h2, c.sb, c.ty, c.kC⟩
  cases q : K.lookup C with
  | none => rw [q] at h; cases h
  | some o =>
    obtain ⟨oc, od, dt, sl⟩ := o
    rw [q] at h
    cases oc with
    | type t =>
      cases dt with
      | cls cd =>
        have h' : (decide (t = "type") && (cd.hasDict && (!cd.hasDel && ((match cd.mro with
          | .ref C' :: bm => decide (C' = C) && PySem.HandSPX.refsVE bm
          | _ => false) && (match sl.toList with
          | [_, _, _, _, some (.builtin n), _] => decide (n = "ValueError.__new__")
          | _ => false))))) = true := h
        simp only [Bool.and_eq_true, decide_eq_true_eq, Bool.not_eq_true'] at h'
        obtain ⟨h1, h3, h4, h5, h6⟩ := h'
        obtain ⟨nm, bs, mro, ns, qn, hdct, sn, sub, ab, col, hdel⟩ := cd
        dsimp only at h3 h4 h5 h6
        subst h1 h3 h4
        match mro, h5 with
        | .ref C' :: bm, h50 =>
          have h51 : C' = C ∧ PySem.HandSPX.refsVE bm = true := by simpa only [Bool.and_eq_true, decide_eq_true_eq] using h50
          obtain ⟨rfl, h52⟩ := h51
          match hsl : sl.toList, h6 with
          | [k0, k1, k2, k3, some (.builtin n), k5], h6 =>
            have h7 : n = "ValueError.__new__" := of_decide_eq_true h6
            subst h7
            have e : sl = #[k0, k1, k2, k3, some (.builtin "ValueError.__new__"), k5] := by
              apply Array.ext'
              exact hsl
            subst e
            exact ⟨nm, qn, ns, bs, bm, sn, sub, ab, col, od, k0, k1, k2, k3, k5, rfl, h52⟩
      | _ => cases h
    | _ => cases dt <;> cases h
/-- a class without __init__ -/
def ckX0 (x : Str) : Ck := fun K => xcB K (He.ga K x) && PySem.W.excIn K (He.ga K x) veB "ValueError.__new__"
/-- a class whose __init__ keeps the field f -/
def ckX1 (x f : Str) : Ck := fun K => xcB K (He.ga K x) && (oexB K (He.ga K x) && (decide (PySem.W.findIn K (.ref (He.ga K x)) f = some none) && (decide (PySem.W.findIn K (.ref (He.ga K x)) "__init__" = some (some (.ref (He.ma K (He.ga K x) "__init__")))) &&
  decide (PySem.W.typeIn K (.ref (He.ma K (He.ga K x) "__init__")) = some (.type "function")))))
def ckXb (x : Str) : Ck := fun K => xcB K (He.ga K x)
def ckNo (x f : Str) : Ck := fun K => decide (PySem.W.findIn K (.ref (He.ga K x)) f = some none)
/-- isinstance of an instance of the class x for the class y -/
def ckKo (x y : Str) (b : Bool) : Ck := fun K => decide (PySem.W.kitOne K (.ref (He.ga K x)) (.ref (He.ga K y)) = some b)
def ckKoT (x : Str) (y : String) (b : Bool) : Ck := fun K => decide (PySem.W.kitOne K (.ref (He.ga K x)) (.type y) = some b)
theorem x0_of {K : PySem.W.Frag} {mg : Str → Option Value} {h : Heap} {x : Str} (X : K.In h) (G : h.Ns mainGlobals mg) (g : ckGlo x K = true) (c : ckX0 x K = true) : Xc0 K mg x := by
  obtain ⟨c1, c2⟩ := Bool.and_eq_true_iff.mp c
  exact ⟨_, He.glo_ok X G g, xcB_ok c1, c2⟩
theorem x1_of {P : Program} {w : World} {base : Heap} {K : PySem.W.Frag} {mg : Str → Option Value} {h : Heap} {x f n q : Str} {st : Stmt} {fd : FuncData} {q1 q2 q3 q4 : Pos} (X : K.In h) (G : h.Ns mainGlobals mg) (g : ckGlo x K = true) (c : ckX1 x f K = true)
    (F : FunD K "__init__" q (defArgs st) (defBody st) (defScope st) [] [] (He.fAd K (x, some "__init__")) fd)
    (hbd : defBody st = [.Assign [.Attribute (.Name "self" q1) f q2] (.Name n q3) q4]) (Sc : FnScope ["self", n] ["self", n] (defScope st)) (v0 : Vis (defScope st) "self") (v1 : Vis (defScope st) n) (hd1 : (n == ("__debug__" : Str)) = false) (hd2 : (n == ("__classdict__" : Str)) = false)
    (hs : ∀ env, swapsWith (.Name n q3) (some (.Attribute (.Name "self" q1) f q2)) q4.line env = pure false)
    (hb : ∀ (kV doc pm : Value) (an : Option Addr) (cdv ct : Value) (us : List Value), us.length = (["self", n] : List Str).length → bindArgs (PySem.W.fnOf "__init__" q (defArgs st) (defBody st) (defScope st) .none kV doc pm an cdv ct) ⟨us, []⟩ = pure ((["self", n] : List Str).zip us)) :
    Xc1 P w K mg base x f := by
  unfold ckX1 at c
  simp only [Bool.and_eq_true, decide_eq_true_eq] at c
  obtain ⟨c1, c2, c3, c4, c5⟩ := c
  have k := xcB_ok c1
  have F' := fun_of F
  exact ⟨_, He.ma K (He.ga K x) "__init__", fd, ["self", n], He.glo_ok X G g, k, oexB_ok k c2, c3, c4, c5, F'.binds hb, ok_xinit F' Sc hbd v0 v1 hd1 hd2 hs⟩
end DP
set_option Elab.async false
set_option linter.all false
set_option maxRecDepth 100000
set_option maxHeartbeats 2000000
/-! DP15: short words for printed proofs. -/
namespace DP
open PySem PySem.Spec L2
open PyProof.Rows hiding St

theorem hu64 {A : Around} {k : Nat} (hr : Room k A) : A.units + 64 < cLine := hr.units
theorem hu65 {A : Around} {k : Nat} (hr : Room k A) : A.units + 65 < cLine := by have := hr.un; omega
section
variable {P : Program} {w : World} {K : PySem.W.Frag} {mg : Str → Option Value} {base : Heap}
theorem defOk_mk {x : Str} {st : Stmt} {N ps : List Str} {pm : List Bool} {m : M Fl} {k : Nat} (T : TopFn K mg x st) (Sc : FnScope N ps (defScope st)) (hp : ps.length = pm.length) (hN : pm.length ≤ N.length)
    (hb : ∀ (kV doc pm : Value) (an : Option Addr) (cdv ct : Value) (us : List Value), us.length = ps.length → bindArgs (PySem.W.fnOf x x (defArgs st) (defBody st) (defScope st) .none kV doc pm an cdv ct) ⟨us, []⟩ = pure (ps.zip us))
    (body : ∀ (f : Addr) (cdv : Value) (A : Around) (outer : List Env) (s : Shared) (H : Hp) (E : XK), Room k (A.deeper (envOfC x (defScope st) s.heap.objs.size f cdv)) →
      PSds (cxOf (L2.CX P w) P w K mg base N x (defScope st) f cdv A outer s H E) (defBody st) m) : DefOk P w K mg base (k + 1) x pm (runD pm N.length m) := by
  obtain ⟨f, fd, hm, F⟩ := T
  exact ⟨f, fd, ps, hm, F.kp, F.binds hb, fn_D F Sc hp hN fun cdv A outer s H E hr => body f cdv A outer s H E hr⟩
theorem DefOk.up {x : Str} {pm : List Bool} {den : List D → DR} {j k : Nat} (G : DefOk P w K mg base j x pm den) (h : j ≤ k) : DefOk P w K mg base k x pm den := by
  obtain ⟨f, fd, ps, h1, h2, h3, h4⟩ := G
  exact ⟨f, fd, ps, h1, h2, h3, h4.mono h⟩
end
section
variable {X : Cx} {elt tg iter a : Expr} {pos p : Pos}
/-- name = [..], shared at once -/
theorem pd_lcS (i : Nat) {x : Str} {py spos : Pos} {m : M (List D)} {is : List Nat} {st : D → En → Option En} {cond : M Bool} {y : M D} {scope : Scope} {own : List (Str × Nat)} {ifs : List Expr} (hN : X.N.Nodup) (hc : X.calm = true) (hi : PIt X tg iter m) (ok : BlkOk X.N X.env.scope scope own)
    (hsw : swapsWith (.ListComp elt [⟨tg, iter, ifs, 0⟩] scope pos) (some (.Name x py)) spos.line X.env = pure true)
    (hg : ∀ (s : Shared) (H : Hp) (C : Addr) (cl : List (Str × Addr)) (fp : List Addr), PGd (X.blk s H scope (compEnvC scope cl C X.env) fp) tg is st)
    (ht : ∀ (s : Shared) (H : Hp) (C : Addr) (cl : List (Str × Addr)) (fp : List Addr), PTd (X.blk s H scope (compEnvC scope cl C X.env) fp) ifs cond)
    (he : ∀ (s : Shared) (H : Hp) (C : Addr) (cl : List (Str × Addr)) (fp : List Addr), PX (X.blk s H scope (compEnvC scope cl C X.env) fp) elt y) (hy : X.N[i]? = some x := by rfl) (hyl : X.env.scope.names.lookup x = some .local := by rfl) (his : ∀ i ∈ is, i ∈ own.map (·.2) := by decide)
    (hs : ∀ x, foldedSetIterable iter X.env x = pure x := by intro _; rfl) :
    PSd X (.Assign [.Name x py] (.ListComp elt [⟨tg, iter, ifs, 0⟩] scope pos) spos) (sSet i (nLc m (own.map (·.2)) st cond y)) := by
  have h := pd_lc i (X := X) (py := py) (spos := spos) hN hc hi ok hsw hg ht he hy hyl his hs
  refine ⟨fun c W tk pw => PS.imp (h.run c W tk pw) fun G σ H ⟨F, e, r, k⟩ => ⟨F, e, r, ?_⟩⟩
  have k1 := Okx.bind (r := nLc m (own.map (·.2)) st cond y e) (f := fun d e => if free e i = true then R.ok Fl.nx (e.set i (.fz d)) else R.bad) k
  show Okx _ _ _ _ ((nLc m (own.map (·.2)) st cond y e).bind fun d e => if free e i = true then R.ok Fl.nx (e.set i (.ow false d)) else R.bad) _
  cases z : nLc m (own.map (·.2)) st cond y e with
  | bad => rw [z] at k1; exact k1.elim
  | ex n fs e1 => rw [z] at k1; exact k1
  | ok d e1 =>
    rw [z] at k1
    have k2 : Okx (Sx X) c W F (if free e1 i = true then R.ok Fl.nx (e1.set i (.fz d)) else R.bad) _ := k1
    show Okx _ _ _ _ (if free e1 i = true then R.ok Fl.nx (e1.set i (.ow false d)) else R.bad) _
    by_cases hf : free e1 i = true
    · rw [if_pos hf] at k2 ⊢
      obtain ⟨hl, _⟩ := free_lt hf
      intro σ' F' H' r' g
      have hz : frz i (e1.set i (.ow false d)) = some (e1.set i (.fz d)) := by
        unfold frz
        rw [List.getElem?_set_self hl]
        show some ((e1.set i (.ow false d)).set i (.fz d)) = _
        rw [List.set_set]
      obtain ⟨F2, r2, g2⟩ := r'.frz hz
      exact k2 σ' F2 H' r2 (g.trans g2)
    · rw [if_neg hf] at k2
      exact k2.elim
def negD : D → Option D
  | .int i => some (.int (-i))
  | _ => none
def eNeg (m : M D) : M D := fun e => (m e).bind fun d e => match negD d with
  | some z => .ok z e
  | none => .bad
theorem px_neg {m : M D} (h : PX X a m) : PX X (.UnaryOp .USub a pos) (eNeg m) := by
  refine ⟨fun c W tk => PE.imp (pe_un un_neg (h.run c W tk)) fun σ H Q ⟨F, e, r, k⟩ => ⟨F, e, r, ?_⟩⟩
  refine Okx.imp (Okx.bind k) fun d e1 k1 v F1 H1 r1 g1 dv => ?_
  cases dv with
  | int i => exact ⟨i, rfl, k1 _ F1 H1 r1 g1 (.int _)⟩
  | _ => exact k1.elim
end

/-! ### isinstance by tables -/
def lk (l : List (String × Bool)) : String → Option Bool := fun n => l.lookup n
def lkS (l : List (Str × Bool)) : Str → Option Bool := fun n => l.lookup n
theorem lookup_in {α : Type} [BEq α] [LawfulBEq α] {β : Type} {a : α} {b : β} : ∀ {l : List (α × β)}, l.lookup a = some b → (a, b) ∈ l
  | [], h => by cases h
  | (x, y) :: r, h => by
    unfold List.lookup at h
    cases q : (a == x) with
    | true =>
      rw [q] at h
      have e : y = b := Option.some.inj h
      rw [beq_iff_eq.mp q, e]
      exact List.mem_cons_self
    | false =>
      rw [q] at h
      exact List.mem_cons_of_mem _ (lookup_in h)
def ckCls (u : PySem.W.Frag → Value) (bt : List (String × Bool)) (ow : List (Str × Bool)) : Ck := fun K => (bt.all fun p => decide (PySem.W.kitOne K (.type p.1) (u K) = some p.2)) && (ow.all fun p => ckGlo p.1 K && (xcB K (He.ga K p.1) && decide (PySem.W.kitOne K (.ref (He.ga K p.1)) (u K) = some p.2)))
theorem clsOk_of {K : PySem.W.Frag} {mg : Str → Option Value} {h : Heap} {u : PySem.W.Frag → Value} {bt : List (String × Bool)} {ow : List (Str × Bool)} (X : K.In h) (G : h.Ns mainGlobals mg) (g : xgB K = true) (c : ckCls u bt ow K = true) : Cls1Ok (sgOf K mg) (u K) ⟨lk bt, lkS ow⟩ := by
  obtain ⟨c1, c2⟩ := Bool.and_eq_true_iff.mp c
  refine ⟨fun n b hn => ?_, fun n b C hn hT => ?_⟩
  · exact of_decide_eq_true (List.all_eq_true.mp c1 (n, b) (lookup_in hn))
  · have q := List.all_eq_true.mp c2 (n, b) (lookup_in hn)
    obtain ⟨q1, q2⟩ := Bool.and_eq_true_iff.mp q
    obtain ⟨q2, q3⟩ := Bool.and_eq_true_iff.mp q2
    have e := tS_at (K := K) (He.glo_ok X G q1)
    rw [e] at hT
    cases hT
    exact ⟨xcB_ok q2, xgB_ok g, of_decide_eq_true q3⟩
/-- the field f of these classes is kept in their instances alone -/
def ckFld (cs : List Str) (f : Str) : Ck := fun K => cs.all fun n => ckGlo n K && (xcB K (He.ga K n) && decide (PySem.W.findIn K (.ref (He.ga K n)) f = some none))
theorem fld_of {K : PySem.W.Frag} {mg : Str → Option Value} {h : Heap} {cs : List Str} {f : Str} (X : K.In h) (G : h.Ns mainGlobals mg) (c : ckFld cs f K = true) : ∀ n C, cs.contains n = true → (sgOf K mg).T n = some C → XcC K C ∧ PySem.W.findIn K (.ref C) f = some none := fun n C hn hT => by
  have q := List.all_eq_true.mp c n (List.contains_iff_mem.mp hn)
  obtain ⟨q1, q2⟩ := Bool.and_eq_true_iff.mp q
  obtain ⟨q2, q3⟩ := Bool.and_eq_true_iff.mp q2
  have e := tS_at (K := K) (He.glo_ok X G q1)
  rw [e] at hT
  cases hT
  exact ⟨xcB_ok q2, of_decide_eq_true q3⟩
section
variable {X : Cx} {a : Expr} {p p2 pos : Pos}
theorem px_isO {c : Cls1} {m : M Op} {cn : Str} (h : ∃ C, X.mg cn = some (.ref C) ∧ Cls1Ok (Sx X) (.ref C) c) (ha : PY X a m) (hm : X.mg "isinstance" = none) (hgc : Gl X cn := by rfl) (hg : Gl X "isinstance" := by rfl) (hdb : (cn == ("__debug__" : Str)) = false := by decide)
    (hs1 : starEach [a, .Name cn p2] X.env = (false, eval a X.env) :: starEach [.Name cn p2] X.env := by rfl) (hpl : (backTo pos (starEach [.Name cn p2] X.env)).any (·.1) = false := by rfl) :
    PX X (.Call (.Name "isinstance" p) [a, .Name cn p2] [] pos) (eIs c m) := by
  obtain ⟨C, h1, h2⟩ := h
  exact px_is h2 ha (pe_glob (v := .ref C) hgc h1 rfl hdb) (.own C) hm hg hs1 hpl
theorem px_isT {c : Cls1} {m : M Op} {cn : Str} {T : String} (h : Cls1Ok (Sx X) (.type T) c) (ha : PY X a m) (hmc : X.mg cn = none) (hm : X.mg "isinstance" = none) (hv : bootBuiltins cn = some (.type T)) (hgc : Gl X cn := by rfl) (hg : Gl X "isinstance" := by rfl) (hn : cn ≠ "__name__" := by decide) (hdb : (cn == ("__debug__" : Str)) = false := by decide)
    (hs1 : starEach [a, .Name cn p2] X.env = (false, eval a X.env) :: starEach [.Name cn p2] X.env := by rfl) (hpl : (backTo pos (starEach [.Name cn p2] X.env)).any (·.1) = false := by rfl) :
    PX X (.Call (.Name "isinstance" p) [a, .Name cn p2] [] pos) (eIs c m) :=
  px_is h ha (pe_bltn (v := .ty T) hgc hmc hv rfl hn hdb) (.ty T) hm hg hs1 hpl
end
/-! ### the end of a law -/
/-- the law's own promise: True for every script -/
theorem law_end {P : Program} {w : World} {K : PySem.W.Frag} {mg : Str → Option Value} {base : Heap} {k : Nat} {den : List D → DR} (G : DefOk P w K mg base k "law" [false] den) (h : ∀ ns : List Int, ns.length ≤ 63 → ∃ ms, den [.scr ns] = .ok (.bl true) ms) :
    ∃ f fd ps, mg "law" = some (.ref f) ∧ L2.Binds K fd ps [] ∧ FnOk P w K mg base (L2.CX P w) k f fd ps (fun vs H Q _ => ∃ (a : Addr) (ns : List Int), vs = [.ref a] ∧ SqL K H a (ns.map V.int) ∧ ns.length ≤ 63 ∧ ∀ H', Q (.bl true) H') := by
  obtain ⟨f, fd, ps, h1, h2, h3, h4⟩ := G
  refine ⟨f, fd, ps, h1, h3, h4.imp fun vs H Q E hq => ?_⟩
  obtain ⟨a, ns, rfl, hS, hl, q⟩ := hq
  obtain ⟨ms, hd⟩ := h ns hl
  refine ⟨H, [.scr ns], Same.refl _, .cons (.scr hS (by rw [sizeLine_eq]; omega)) .nil, List.nodup_nil, ?_⟩
  rw [hd]
  intro v F' H' _ dv
  cases dv with
  | bl b => exact q H'
end DP
set_option Elab.async false
set_option linter.all false
set_option maxRecDepth 100000
set_option maxHeartbeats 2000000
/-! DP16: the law's own def and the end. -/
namespace DP
open PySem PySem.Spec L2
open PyProof.Rows hiding St

def LawD (P : Program) (w : World) (K : PySem.W.Frag) (mg : Str → Option Value) (k : Nat) (x : Str) (den : List D → DR) : Prop :=
  ∃ f fd, mg "law" = some (.ref f) ∧ (∀ (s : Shared) (u : Value), BindsTo s fd ⟨[u], []⟩ [(x, u)]) ∧ ∀ base : Heap, FnOk P w K mg base (L2.CX P w) k f fd [x] (spD (sgOf K mg) [false] den)
theorem law_mk {P : Program} {w : World} {K : PySem.W.Frag} {mg : Str → Option Value} {st : Stmt} {N : List Str} {x : Str} {m : M Fl} {k : Nat} (T : TopFn K mg "law" st) (Sc : FnScope N [x] (defScope st)) (hN : 1 ≤ N.length)
    (hb : ∀ (kV doc pm : Value) (an : Option Addr) (cdv ct : Value) (us : List Value), us.length = ([x] : List Str).length → bindArgs (PySem.W.fnOf "law" "law" (defArgs st) (defBody st) (defScope st) .none kV doc pm an cdv ct) ⟨us, []⟩ = pure (([x] : List Str).zip us))
    (body : ∀ (base : Heap) (f : Addr) (cdv : Value) (A : Around) (outer : List Env) (s : Shared) (H : Hp) (E : XK), Room k (A.deeper (envOfC "law" (defScope st) s.heap.objs.size f cdv)) →
      PSds (cxOf (L2.CX P w) P w K mg base N "law" (defScope st) f cdv A outer s H E) (defBody st) m) : LawD P w K mg (k + 1) x (runD [false] N.length m) := by
  obtain ⟨f, fd, hm, F⟩ := T
  refine ⟨f, fd, hm, fun s u => ?_, fun base => fn_D F Sc rfl hN fun cdv A outer s H E hr => body base f cdv A outer s H E hr⟩
  obtain ⟨oc, od, kV, doc, pm, an, cdv, ct, osl, rfl, lk, hcd⟩ := F.ex
  exact .of_eq (hb kV doc pm an cdv ct [u] rfl)

theorem walk_dp {l : PySem.W.OpenLaw} {q : Program} {loose : List Str} {XP : (Str → Option Value) → Heap → Prop} {d : DefRec} {k n : Nat} {x : Str} {den : List D → DR} {ck : List Ck} {fn : List He.DefD}
    (hn : l.most = some 63) (hdf : d.params.defaults = []) (hr : Room k callerA) (hd : d.name = "law")
    (F : ∀ (w : World) (K : PySem.W.Frag) (mg : Str → Option Value) (h : Heap), K.In h → h.Ns mainGlobals mg → SaysE ck fn K → LawD l.prog w K mg k x den)
    (M : ∀ ns : List Int, ns.length ≤ 63 → (∀ z ∈ ns, Builtin.Int.intBits z ≤ 1048576) → ∃ ms, den [.scr ns] = .ok (.bl true) ms) :
    PySem.W.WalkO q loose XP (hookE n ck fn).says l.row.toRowW d [] (fun f vs => PySem.call f vs) := by
  refine LamX.walk_ofTsE (CX := fun w => L2.CX l.prog w) (x := x) hn (by decide) hdf hr ?_ ?_
  · intro w mg fa h Y G hmg
    obtain ⟨K, KX, c⟩ := Y
    rw [hd] at hmg
    obtain ⟨f, fd, h1, h2, h3⟩ := F w K mg h KX G c
    have e := hmg.symm.trans h1
    cases e
    refine ⟨K, KX, fd, [], _, (fun _ z => nomatch z), (fun _ z => nomatch z), (fun _ z => nomatch z), h2, ?_, fun base _ _ _ => h3 base⟩
    intro H a ns hl hz _ hS
    obtain ⟨ms, hd⟩ := M ns hl hz
    refine ⟨H, [.scr ns], Same.refl _, .cons (.scr hS (by rw [sizeLine_eq]; omega)) .nil, List.nodup_nil, ?_⟩
    rw [hd]
    intro v F' H' _ dv
    cases dv with
    | bl b => rfl
  · rintro w H s e s' ⟨a, B, H', cls, d, -, -, -, -, -, -, -, z⟩
    exact z
end DP
set_option Elab.async false
set_option linter.all false
set_option maxRecDepth 100000
set_option maxHeartbeats 2000000
namespace K06
open PySem PySem.Spec L2 DP
open PyProof.Rows hiding St
def top (i : Nat) : Stmt := PySem.Challenge.pw_onceread_k06_error_classes.main.body.getD i (.Pass ⟨0, 0, 0, 0⟩)
def bt_BadDeed : List (String × Bool) := []
def ow_BadDeed : List (Str × Bool) := [("OnceError", false), ("BadWorld", false), ("NoSuchRelation", false), ("BadRow", false), ("BadOrder", false), ("BadQuestion", false), ("BadText", false), ("BadValues", false), ("Unvalued", false), ("NotAWalk", false), ("BadJudge", false), ("BadGiven", false), ("BadStanding", false), ("TooMany", false), ("BadSide", false), ("NotRight", false), ("TooLarge", false), ("TooLong", false), ("TakenName", false), ("UnknownWatch", false), ("NothingToUndo", false), ("BadDeed", true), ("NoSuchWord", false), ("BadNote", false), ("BadLetter", false)]
def c_BadDeed : Cls1 := ⟨lk bt_BadDeed, lkS ow_BadDeed⟩
def bt_BadGiven : List (String × Bool) := []
def ow_BadGiven : List (Str × Bool) := [("OnceError", false), ("BadWorld", false), ("NoSuchRelation", false), ("BadRow", false), ("BadOrder", false), ("BadQuestion", false), ("BadText", false), ("BadValues", false), ("Unvalued", false), ("NotAWalk", false), ("BadJudge", false), ("BadGiven", true), ("BadStanding", false), ("TooMany", false), ("BadSide", false), ("NotRight", false), ("TooLarge", false), ("TooLong", false), ("TakenName", false), ("UnknownWatch", false), ("NothingToUndo", false), ("BadDeed", false), ("NoSuchWord", false), ("BadNote", false), ("BadLetter", false)]
def c_BadGiven : Cls1 := ⟨lk bt_BadGiven, lkS ow_BadGiven⟩
def bt_BadJudge : List (String × Bool) := []
def ow_BadJudge : List (Str × Bool) := [("OnceError", false), ("BadWorld", false), ("NoSuchRelation", false), ("BadRow", false), ("BadOrder", false), ("BadQuestion", false), ("BadText", false), ("BadValues", false), ("Unvalued", false), ("NotAWalk", false), ("BadJudge", true), ("BadGiven", false), ("BadStanding", false), ("TooMany", false), ("BadSide", false), ("NotRight", false), ("TooLarge", false), ("TooLong", false), ("TakenName", false), ("UnknownWatch", false), ("NothingToUndo", false), ("BadDeed", false), ("NoSuchWord", false), ("BadNote", false), ("BadLetter", false)]
def c_BadJudge : Cls1 := ⟨lk bt_BadJudge, lkS ow_BadJudge⟩
def bt_BadLetter : List (String × Bool) := []
def ow_BadLetter : List (Str × Bool) := [("OnceError", false), ("BadWorld", false), ("NoSuchRelation", false), ("BadRow", false), ("BadOrder", false), ("BadQuestion", false), ("BadText", false), ("BadValues", false), ("Unvalued", false), ("NotAWalk", false), ("BadJudge", false), ("BadGiven", false), ("BadStanding", false), ("TooMany", false), ("BadSide", false), ("NotRight", false), ("TooLarge", false), ("TooLong", false), ("TakenName", false), ("UnknownWatch", false), ("NothingToUndo", false), ("BadDeed", false), ("NoSuchWord", false), ("BadNote", false), ("BadLetter", true)]
def c_BadLetter : Cls1 := ⟨lk bt_BadLetter, lkS ow_BadLetter⟩
def bt_BadNote : List (String × Bool) := []
def ow_BadNote : List (Str × Bool) := [("OnceError", false), ("BadWorld", false), ("NoSuchRelation", false), ("BadRow", false), ("BadOrder", false), ("BadQuestion", false), ("BadText", false), ("BadValues", false), ("Unvalued", false), ("NotAWalk", false), ("BadJudge", false), ("BadGiven", false), ("BadStanding", false), ("TooMany", false), ("BadSide", false), ("NotRight", false), ("TooLarge", false), ("TooLong", false), ("TakenName", false), ("UnknownWatch", false), ("NothingToUndo", false), ("BadDeed", false), ("NoSuchWord", false), ("BadNote", true), ("BadLetter", false)]
def c_BadNote : Cls1 := ⟨lk bt_BadNote, lkS ow_BadNote⟩
def bt_BadOrder : List (String × Bool) := []
def ow_BadOrder : List (Str × Bool) := [("OnceError", false), ("BadWorld", false), ("NoSuchRelation", false), ("BadRow", false), ("BadOrder", true), ("BadQuestion", false), ("BadText", false), ("BadValues", false), ("Unvalued", false), ("NotAWalk", false), ("BadJudge", false), ("BadGiven", false), ("BadStanding", false), ("TooMany", false), ("BadSide", false), ("NotRight", false), ("TooLarge", false), ("TooLong", false), ("TakenName", false), ("UnknownWatch", false), ("NothingToUndo", false), ("BadDeed", false), ("NoSuchWord", false), ("BadNote", false), ("BadLetter", false)]
def c_BadOrder : Cls1 := ⟨lk bt_BadOrder, lkS ow_BadOrder⟩
def bt_BadQuestion : List (String × Bool) := []
def ow_BadQuestion : List (Str × Bool) := [("OnceError", false), ("BadWorld", false), ("NoSuchRelation", false), ("BadRow", false), ("BadOrder", false), ("BadQuestion", true), ("BadText", false), ("BadValues", false), ("Unvalued", false), ("NotAWalk", false), ("BadJudge", false), ("BadGiven", false), ("BadStanding", false), ("TooMany", false), ("BadSide", false), ("NotRight", false), ("TooLarge", false), ("TooLong", false), ("TakenName", false), ("UnknownWatch", false), ("NothingToUndo", false), ("BadDeed", false), ("NoSuchWord", false), ("BadNote", false), ("BadLetter", false)]
def c_BadQuestion : Cls1 := ⟨lk bt_BadQuestion, lkS ow_BadQuestion⟩
def bt_BadRow : List (String × Bool) := []
def ow_BadRow : List (Str × Bool) := [("OnceError", false), ("BadWorld", false), ("NoSuchRelation", false), ("BadRow", true), ("BadOrder", false), ("BadQuestion", false), ("BadText", false), ("BadValues", false), ("Unvalued", false), ("NotAWalk", false), ("BadJudge", false), ("BadGiven", false), ("BadStanding", false), ("TooMany", false), ("BadSide", false), ("NotRight", false), ("TooLarge", false), ("TooLong", false), ("TakenName", false), ("UnknownWatch", false), ("NothingToUndo", false), ("BadDeed", false), ("NoSuchWord", false), ("BadNote", false), ("BadLetter", false)]
def c_BadRow : Cls1 := ⟨lk bt_BadRow, lkS ow_BadRow⟩
def bt_BadSide : List (String × Bool) := []
def ow_BadSide : List (Str × Bool) := [("OnceError", false), ("BadWorld", false), ("NoSuchRelation", false), ("BadRow", false), ("BadOrder", false), ("BadQuestion", false), ("BadText", false), ("BadValues", false), ("Unvalued", false), ("NotAWalk", false), ("BadJudge", false), ("BadGiven", false), ("BadStanding", false), ("TooMany", false), ("BadSide", true), ("NotRight", false), ("TooLarge", false), ("TooLong", false), ("TakenName", false), ("UnknownWatch", false), ("NothingToUndo", false), ("BadDeed", false), ("NoSuchWord", false), ("BadNote", false), ("BadLetter", false)]
def c_BadSide : Cls1 := ⟨lk bt_BadSide, lkS ow_BadSide⟩
def bt_BadStanding : List (String × Bool) := []
def ow_BadStanding : List (Str × Bool) := [("OnceError", false), ("BadWorld", false), ("NoSuchRelation", false), ("BadRow", false), ("BadOrder", false), ("BadQuestion", false), ("BadText", false), ("BadValues", false), ("Unvalued", false), ("NotAWalk", false), ("BadJudge", false), ("BadGiven", false), ("BadStanding", true), ("TooMany", false), ("BadSide", false), ("NotRight", false), ("TooLarge", false), ("TooLong", false), ("TakenName", false), ("UnknownWatch", false), ("NothingToUndo", false), ("BadDeed", false), ("NoSuchWord", false), ("BadNote", false), ("BadLetter", false)]
def c_BadStanding : Cls1 := ⟨lk bt_BadStanding, lkS ow_BadStanding⟩
def bt_BadText : List (String × Bool) := []
def ow_BadText : List (Str × Bool) := [("OnceError", false), ("BadWorld", false), ("NoSuchRelation", false), ("BadRow", false), ("BadOrder", false), ("BadQuestion", false), ("BadText", true), ("BadValues", false), ("Unvalued", false), ("NotAWalk", false), ("BadJudge", false), ("BadGiven", false), ("BadStanding", false), ("TooMany", false), ("BadSide", false), ("NotRight", false), ("TooLarge", false), ("TooLong", false), ("TakenName", false), ("UnknownWatch", false), ("NothingToUndo", false), ("BadDeed", false), ("NoSuchWord", false), ("BadNote", false), ("BadLetter", false)]
def c_BadText : Cls1 := ⟨lk bt_BadText, lkS ow_BadText⟩
def bt_BadValues : List (String × Bool) := []
def ow_BadValues : List (Str × Bool) := [("OnceError", false), ("BadWorld", false), ("NoSuchRelation", false), ("BadRow", false), ("BadOrder", false), ("BadQuestion", false), ("BadText", false), ("BadValues", true), ("Unvalued", false), ("NotAWalk", false), ("BadJudge", false), ("BadGiven", false), ("BadStanding", false), ("TooMany", false), ("BadSide", false), ("NotRight", false), ("TooLarge", false), ("TooLong", false), ("TakenName", false), ("UnknownWatch", false), ("NothingToUndo", false), ("BadDeed", false), ("NoSuchWord", false), ("BadNote", false), ("BadLetter", false)]
def c_BadValues : Cls1 := ⟨lk bt_BadValues, lkS ow_BadValues⟩
def bt_BadWorld : List (String × Bool) := []
def ow_BadWorld : List (Str × Bool) := [("OnceError", false), ("BadWorld", true), ("NoSuchRelation", false), ("BadRow", false), ("BadOrder", false), ("BadQuestion", false), ("BadText", false), ("BadValues", false), ("Unvalued", false), ("NotAWalk", false), ("BadJudge", false), ("BadGiven", false), ("BadStanding", false), ("TooMany", false), ("BadSide", false), ("NotRight", false), ("TooLarge", false), ("TooLong", false), ("TakenName", false), ("UnknownWatch", false), ("NothingToUndo", false), ("BadDeed", false), ("NoSuchWord", false), ("BadNote", false), ("BadLetter", false)]
def c_BadWorld : Cls1 := ⟨lk bt_BadWorld, lkS ow_BadWorld⟩
def bt_NoSuchRelation : List (String × Bool) := []
def ow_NoSuchRelation : List (Str × Bool) := [("OnceError", false), ("BadWorld", false), ("NoSuchRelation", true), ("BadRow", false), ("BadOrder", false), ("BadQuestion", false), ("BadText", false), ("BadValues", false), ("Unvalued", false), ("NotAWalk", false), ("BadJudge", false), ("BadGiven", false), ("BadStanding", false), ("TooMany", false), ("BadSide", false), ("NotRight", false), ("TooLarge", false), ("TooLong", false), ("TakenName", false), ("UnknownWatch", false), ("NothingToUndo", false), ("BadDeed", false), ("NoSuchWord", false), ("BadNote", false), ("BadLetter", false)]
def c_NoSuchRelation : Cls1 := ⟨lk bt_NoSuchRelation, lkS ow_NoSuchRelation⟩
def bt_NoSuchWord : List (String × Bool) := []
def ow_NoSuchWord : List (Str × Bool) := [("OnceError", false), ("BadWorld", false), ("NoSuchRelation", false), ("BadRow", false), ("BadOrder", false), ("BadQuestion", false), ("BadText", false), ("BadValues", false), ("Unvalued", false), ("NotAWalk", false), ("BadJudge", false), ("BadGiven", false), ("BadStanding", false), ("TooMany", false), ("BadSide", false), ("NotRight", false), ("TooLarge", false), ("TooLong", false), ("TakenName", false), ("UnknownWatch", false), ("NothingToUndo", false), ("BadDeed", false), ("NoSuchWord", true), ("BadNote", false), ("BadLetter", false)]
def c_NoSuchWord : Cls1 := ⟨lk bt_NoSuchWord, lkS ow_NoSuchWord⟩
def bt_NotAWalk : List (String × Bool) := []
def ow_NotAWalk : List (Str × Bool) := [("OnceError", false), ("BadWorld", false), ("NoSuchRelation", false), ("BadRow", false), ("BadOrder", false), ("BadQuestion", false), ("BadText", false), ("BadValues", false), ("Unvalued", false), ("NotAWalk", true), ("BadJudge", false), ("BadGiven", false), ("BadStanding", false), ("TooMany", false), ("BadSide", false), ("NotRight", false), ("TooLarge", false), ("TooLong", false), ("TakenName", false), ("UnknownWatch", false), ("NothingToUndo", false), ("BadDeed", false), ("NoSuchWord", false), ("BadNote", false), ("BadLetter", false)]
def c_NotAWalk : Cls1 := ⟨lk bt_NotAWalk, lkS ow_NotAWalk⟩
def bt_NotRight : List (String × Bool) := []
def ow_NotRight : List (Str × Bool) := [("OnceError", false), ("BadWorld", false), ("NoSuchRelation", false), ("BadRow", false), ("BadOrder", false), ("BadQuestion", false), ("BadText", false), ("BadValues", false), ("Unvalued", false), ("NotAWalk", false), ("BadJudge", false), ("BadGiven", false), ("BadStanding", false), ("TooMany", false), ("BadSide", false), ("NotRight", true), ("TooLarge", false), ("TooLong", false), ("TakenName", false), ("UnknownWatch", false), ("NothingToUndo", false), ("BadDeed", false), ("NoSuchWord", false), ("BadNote", false), ("BadLetter", false)]
def c_NotRight : Cls1 := ⟨lk bt_NotRight, lkS ow_NotRight⟩
def bt_NothingToUndo : List (String × Bool) := []
def ow_NothingToUndo : List (Str × Bool) := [("OnceError", false), ("BadWorld", false), ("NoSuchRelation", false), ("BadRow", false), ("BadOrder", false), ("BadQuestion", false), ("BadText", false), ("BadValues", false), ("Unvalued", false), ("NotAWalk", false), ("BadJudge", false), ("BadGiven", false), ("BadStanding", false), ("TooMany", false), ("BadSide", false), ("NotRight", false), ("TooLarge", false), ("TooLong", false), ("TakenName", false), ("UnknownWatch", false), ("NothingToUndo", true), ("BadDeed", false), ("NoSuchWord", false), ("BadNote", false), ("BadLetter", false)]
def c_NothingToUndo : Cls1 := ⟨lk bt_NothingToUndo, lkS ow_NothingToUndo⟩
def bt_OnceError : List (String × Bool) := []
def ow_OnceError : List (Str × Bool) := [("OnceError", true), ("BadWorld", true), ("NoSuchRelation", true), ("BadRow", true), ("BadOrder", true), ("BadQuestion", true), ("BadText", true), ("BadValues", true), ("Unvalued", true), ("NotAWalk", true), ("BadJudge", true), ("BadGiven", true), ("BadStanding", true), ("TooMany", true), ("BadSide", true), ("NotRight", true), ("TooLarge", true), ("TooLong", true), ("TakenName", true), ("UnknownWatch", true), ("NothingToUndo", true), ("BadDeed", true), ("NoSuchWord", true), ("BadNote", true), ("BadLetter", true)]
def c_OnceError : Cls1 := ⟨lk bt_OnceError, lkS ow_OnceError⟩
def bt_TakenName : List (String × Bool) := []
def ow_TakenName : List (Str × Bool) := [("OnceError", false), ("BadWorld", false), ("NoSuchRelation", false), ("BadRow", false), ("BadOrder", false), ("BadQuestion", false), ("BadText", false), ("BadValues", false), ("Unvalued", false), ("NotAWalk", false), ("BadJudge", false), ("BadGiven", false), ("BadStanding", false), ("TooMany", false), ("BadSide", false), ("NotRight", false), ("TooLarge", false), ("TooLong", false), ("TakenName", true), ("UnknownWatch", false), ("NothingToUndo", false), ("BadDeed", false), ("NoSuchWord", false), ("BadNote", false), ("BadLetter", false)]
def c_TakenName : Cls1 := ⟨lk bt_TakenName, lkS ow_TakenName⟩
def bt_TooLarge : List (String × Bool) := []
def ow_TooLarge : List (Str × Bool) := [("OnceError", false), ("BadWorld", false), ("NoSuchRelation", false), ("BadRow", false), ("BadOrder", false), ("BadQuestion", false), ("BadText", false), ("BadValues", false), ("Unvalued", false), ("NotAWalk", false), ("BadJudge", false), ("BadGiven", false), ("BadStanding", false), ("TooMany", false), ("BadSide", false), ("NotRight", false), ("TooLarge", true), ("TooLong", false), ("TakenName", false), ("UnknownWatch", false), ("NothingToUndo", false), ("BadDeed", false), ("NoSuchWord", false), ("BadNote", false), ("BadLetter", false)]
def c_TooLarge : Cls1 := ⟨lk bt_TooLarge, lkS ow_TooLarge⟩
def bt_TooLong : List (String × Bool) := []
def ow_TooLong : List (Str × Bool) := [("OnceError", false), ("BadWorld", false), ("NoSuchRelation", false), ("BadRow", false), ("BadOrder", false), ("BadQuestion", false), ("BadText", false), ("BadValues", false), ("Unvalued", false), ("NotAWalk", false), ("BadJudge", false), ("BadGiven", false), ("BadStanding", false), ("TooMany", false), ("BadSide", false), ("NotRight", false), ("TooLarge", false), ("TooLong", true), ("TakenName", false), ("UnknownWatch", false), ("NothingToUndo", false), ("BadDeed", false), ("NoSuchWord", false), ("BadNote", false), ("BadLetter", false)]
def c_TooLong : Cls1 := ⟨lk bt_TooLong, lkS ow_TooLong⟩
def bt_TooMany : List (String × Bool) := []
def ow_TooMany : List (Str × Bool) := [("OnceError", false), ("BadWorld", false), ("NoSuchRelation", false), ("BadRow", false), ("BadOrder", false), ("BadQuestion", false), ("BadText", false), ("BadValues", false), ("Unvalued", false), ("NotAWalk", false), ("BadJudge", false), ("BadGiven", false), ("BadStanding", false), ("TooMany", true), ("BadSide", false), ("NotRight", false), ("TooLarge", false), ("TooLong", false), ("TakenName", false), ("UnknownWatch", false), ("NothingToUndo", false), ("BadDeed", false), ("NoSuchWord", false), ("BadNote", false), ("BadLetter", false)]
def c_TooMany : Cls1 := ⟨lk bt_TooMany, lkS ow_TooMany⟩
def bt_UnknownWatch : List (String × Bool) := []
def ow_UnknownWatch : List (Str × Bool) := [("OnceError", false), ("BadWorld", false), ("NoSuchRelation", false), ("BadRow", false), ("BadOrder", false), ("BadQuestion", false), ("BadText", false), ("BadValues", false), ("Unvalued", false), ("NotAWalk", false), ("BadJudge", false), ("BadGiven", false), ("BadStanding", false), ("TooMany", false), ("BadSide", false), ("NotRight", false), ("TooLarge", false), ("TooLong", false), ("TakenName", false), ("UnknownWatch", true), ("NothingToUndo", false), ("BadDeed", false), ("NoSuchWord", false), ("BadNote", false), ("BadLetter", false)]
def c_UnknownWatch : Cls1 := ⟨lk bt_UnknownWatch, lkS ow_UnknownWatch⟩
def bt_Unvalued : List (String × Bool) := []
def ow_Unvalued : List (Str × Bool) := [("OnceError", false), ("BadWorld", false), ("NoSuchRelation", false), ("BadRow", false), ("BadOrder", false), ("BadQuestion", false), ("BadText", false), ("BadValues", false), ("Unvalued", true), ("NotAWalk", false), ("BadJudge", false), ("BadGiven", false), ("BadStanding", false), ("TooMany", false), ("BadSide", false), ("NotRight", false), ("TooLarge", false), ("TooLong", false), ("TakenName", false), ("UnknownWatch", false), ("NothingToUndo", false), ("BadDeed", false), ("NoSuchWord", false), ("BadNote", false), ("BadLetter", false)]
def c_Unvalued : Cls1 := ⟨lk bt_Unvalued, lkS ow_Unvalued⟩
def bt_ValueError : List (String × Bool) := []
def ow_ValueError : List (Str × Bool) := [("OnceError", true), ("BadWorld", true), ("NoSuchRelation", true), ("BadRow", true), ("BadOrder", true), ("BadQuestion", true), ("BadText", true), ("BadValues", true), ("Unvalued", true), ("NotAWalk", true), ("BadJudge", true), ("BadGiven", true), ("BadStanding", true), ("TooMany", true), ("BadSide", true), ("NotRight", true), ("TooLarge", true), ("TooLong", true), ("TakenName", true), ("UnknownWatch", true), ("NothingToUndo", true), ("BadDeed", true), ("NoSuchWord", true), ("BadNote", true), ("BadLetter", true)]
def c_ValueError : Cls1 := ⟨lk bt_ValueError, lkS ow_ValueError⟩
def bt_bool : List (String × Bool) := [("int", false), ("bool", true), ("str", false), ("tuple", false), ("list", false), ("NoneType", false)]
def ow_bool : List (Str × Bool) := []
def c_bool : Cls1 := ⟨lk bt_bool, lkS ow_bool⟩
def bt_int : List (String × Bool) := [("int", true), ("bool", true), ("str", false), ("tuple", false), ("list", false), ("NoneType", false)]
def ow_int : List (Str × Bool) := []
def c_int : Cls1 := ⟨lk bt_int, lkS ow_int⟩
def bt_str : List (String × Bool) := [("int", false), ("bool", false), ("str", true), ("tuple", false), ("list", false), ("NoneType", false)]
def ow_str : List (Str × Bool) := []
def c_str : Cls1 := ⟨lk bt_str, lkS ow_str⟩
def bt_tuple : List (String × Bool) := [("int", false), ("bool", false), ("str", false), ("tuple", true), ("list", false), ("NoneType", false)]
def ow_tuple : List (Str × Bool) := []
def c_tuple : Cls1 := ⟨lk bt_tuple, lkS ow_tuple⟩
def fc_name : List Str := ["NoSuchRelation", "TakenName", "UnknownWatch"]
def ok_name : Str → Bool := fun n => fc_name.contains n
def fc_variable : List Str := ["Unvalued"]
def ok_variable : Str → Bool := fun n => fc_variable.contains n
def fc_side : List Str := ["BadSide"]
def ok_side : Str → Bool := fun n => fc_side.contains n
def fc_word : List Str := ["NoSuchWord"]
def ok_word : Str → Bool := fun n => fc_word.contains n
def fc_row : List Str := ["BadRow"]
def ok_row : Str → Bool := fun n => fc_row.contains n
def fc_place : List Str := ["BadText"]
def ok_place : Str → Bool := fun n => fc_place.contains n
def fc_limit : List Str := ["TooMany"]
def ok_limit : Str → Bool := fun n => fc_limit.contains n
def fc_length : List Str := ["TooLong"]
def ok_length : Str → Bool := fun n => fc_length.contains n
def fc_line : List Str := ["BadNote"]
def ok_line : Str → Bool := fun n => fc_line.contains n
def fc_letter : List Str := ["BadLetter"]
def ok_letter : Str → Bool := fun n => fc_letter.contains n
structure Bt (mg : Str → Option Value) : Prop where
  ValueError : mg "ValueError" = none
  bool : mg "bool" = none
  int : mg "int" = none
  isinstance : mg "isinstance" = none
  len : mg "len" = none
  range : mg "range" = none
  str : mg "str" = none
  tuple : mg "tuple" = none
structure Ex (P : Program) (w : World) (K : PySem.W.Frag) (mg : Str → Option Value) (base : Heap) : Prop where
  xBadWorld : Xc0 K mg "BadWorld"
  xNoSuchRelation : Xc1 P w K mg base "NoSuchRelation" "name"
  xBadRow : Xc1 P w K mg base "BadRow" "row"
  xBadOrder : Xc0 K mg "BadOrder"
  xBadQuestion : Xc0 K mg "BadQuestion"
  xBadText : Xc1 P w K mg base "BadText" "place"
  xBadValues : Xc0 K mg "BadValues"
  xUnvalued : Xc1 P w K mg base "Unvalued" "variable"
  xNotAWalk : Xc0 K mg "NotAWalk"
  xBadJudge : Xc0 K mg "BadJudge"
  xBadGiven : Xc0 K mg "BadGiven"
  xBadStanding : Xc0 K mg "BadStanding"
  xTooMany : Xc1 P w K mg base "TooMany" "limit"
  xBadSide : Xc1 P w K mg base "BadSide" "side"
  xNotRight : Xc0 K mg "NotRight"
  xTooLarge : Xc0 K mg "TooLarge"
  xTooLong : Xc1 P w K mg base "TooLong" "length"
  xTakenName : Xc1 P w K mg base "TakenName" "name"
  xUnknownWatch : Xc1 P w K mg base "UnknownWatch" "name"
  xNothingToUndo : Xc0 K mg "NothingToUndo"
  xBadDeed : Xc0 K mg "BadDeed"
  xNoSuchWord : Xc1 P w K mg base "NoSuchWord" "word"
  xBadNote : Xc1 P w K mg base "BadNote" "line"
  xBadLetter : Xc1 P w K mg base "BadLetter" "letter"
  i_BadDeed : ∃ C, mg "BadDeed" = some (.ref C) ∧ Cls1Ok (sgOf K mg) (.ref C) c_BadDeed
  i_BadGiven : ∃ C, mg "BadGiven" = some (.ref C) ∧ Cls1Ok (sgOf K mg) (.ref C) c_BadGiven
  i_BadJudge : ∃ C, mg "BadJudge" = some (.ref C) ∧ Cls1Ok (sgOf K mg) (.ref C) c_BadJudge
  i_BadLetter : ∃ C, mg "BadLetter" = some (.ref C) ∧ Cls1Ok (sgOf K mg) (.ref C) c_BadLetter
  i_BadNote : ∃ C, mg "BadNote" = some (.ref C) ∧ Cls1Ok (sgOf K mg) (.ref C) c_BadNote
  i_BadOrder : ∃ C, mg "BadOrder" = some (.ref C) ∧ Cls1Ok (sgOf K mg) (.ref C) c_BadOrder
  i_BadQuestion : ∃ C, mg "BadQuestion" = some (.ref C) ∧ Cls1Ok (sgOf K mg) (.ref C) c_BadQuestion
  i_BadRow : ∃ C, mg "BadRow" = some (.ref C) ∧ Cls1Ok (sgOf K mg) (.ref C) c_BadRow
  i_BadSide : ∃ C, mg "BadSide" = some (.ref C) ∧ Cls1Ok (sgOf K mg) (.ref C) c_BadSide
  i_BadStanding : ∃ C, mg "BadStanding" = some (.ref C) ∧ Cls1Ok (sgOf K mg) (.ref C) c_BadStanding
  i_BadText : ∃ C, mg "BadText" = some (.ref C) ∧ Cls1Ok (sgOf K mg) (.ref C) c_BadText
  i_BadValues : ∃ C, mg "BadValues" = some (.ref C) ∧ Cls1Ok (sgOf K mg) (.ref C) c_BadValues
  i_BadWorld : ∃ C, mg "BadWorld" = some (.ref C) ∧ Cls1Ok (sgOf K mg) (.ref C) c_BadWorld
  i_NoSuchRelation : ∃ C, mg "NoSuchRelation" = some (.ref C) ∧ Cls1Ok (sgOf K mg) (.ref C) c_NoSuchRelation
  i_NoSuchWord : ∃ C, mg "NoSuchWord" = some (.ref C) ∧ Cls1Ok (sgOf K mg) (.ref C) c_NoSuchWord
  i_NotAWalk : ∃ C, mg "NotAWalk" = some (.ref C) ∧ Cls1Ok (sgOf K mg) (.ref C) c_NotAWalk
  i_NotRight : ∃ C, mg "NotRight" = some (.ref C) ∧ Cls1Ok (sgOf K mg) (.ref C) c_NotRight
  i_NothingToUndo : ∃ C, mg "NothingToUndo" = some (.ref C) ∧ Cls1Ok (sgOf K mg) (.ref C) c_NothingToUndo
  i_OnceError : ∃ C, mg "OnceError" = some (.ref C) ∧ Cls1Ok (sgOf K mg) (.ref C) c_OnceError
  i_TakenName : ∃ C, mg "TakenName" = some (.ref C) ∧ Cls1Ok (sgOf K mg) (.ref C) c_TakenName
  i_TooLarge : ∃ C, mg "TooLarge" = some (.ref C) ∧ Cls1Ok (sgOf K mg) (.ref C) c_TooLarge
  i_TooLong : ∃ C, mg "TooLong" = some (.ref C) ∧ Cls1Ok (sgOf K mg) (.ref C) c_TooLong
  i_TooMany : ∃ C, mg "TooMany" = some (.ref C) ∧ Cls1Ok (sgOf K mg) (.ref C) c_TooMany
  i_UnknownWatch : ∃ C, mg "UnknownWatch" = some (.ref C) ∧ Cls1Ok (sgOf K mg) (.ref C) c_UnknownWatch
  i_Unvalued : ∃ C, mg "Unvalued" = some (.ref C) ∧ Cls1Ok (sgOf K mg) (.ref C) c_Unvalued
  i_ValueError : Cls1Ok (sgOf K mg) (.type "ValueError") c_ValueError
  i_bool : Cls1Ok (sgOf K mg) (.type "bool") c_bool
  i_int : Cls1Ok (sgOf K mg) (.type "int") c_int
  i_str : Cls1Ok (sgOf K mg) (.type "str") c_str
  i_tuple : Cls1Ok (sgOf K mg) (.type "tuple") c_tuple
  f_name : ∀ n C, ok_name n = true → (sgOf K mg).T n = some C → XcC K C ∧ PySem.W.findIn K (.ref C) "name" = some none
  f_variable : ∀ n C, ok_variable n = true → (sgOf K mg).T n = some C → XcC K C ∧ PySem.W.findIn K (.ref C) "variable" = some none
  f_side : ∀ n C, ok_side n = true → (sgOf K mg).T n = some C → XcC K C ∧ PySem.W.findIn K (.ref C) "side" = some none
  f_word : ∀ n C, ok_word n = true → (sgOf K mg).T n = some C → XcC K C ∧ PySem.W.findIn K (.ref C) "word" = some none
  f_row : ∀ n C, ok_row n = true → (sgOf K mg).T n = some C → XcC K C ∧ PySem.W.findIn K (.ref C) "row" = some none
  f_place : ∀ n C, ok_place n = true → (sgOf K mg).T n = some C → XcC K C ∧ PySem.W.findIn K (.ref C) "place" = some none
  f_limit : ∀ n C, ok_limit n = true → (sgOf K mg).T n = some C → XcC K C ∧ PySem.W.findIn K (.ref C) "limit" = some none
  f_length : ∀ n C, ok_length n = true → (sgOf K mg).T n = some C → XcC K C ∧ PySem.W.findIn K (.ref C) "length" = some none
  f_line : ∀ n C, ok_line n = true → (sgOf K mg).T n = some C → XcC K C ∧ PySem.W.findIn K (.ref C) "line" = some none
  f_letter : ∀ n C, ok_letter n = true → (sgOf K mg).T n = some C → XcC K C ∧ PySem.W.findIn K (.ref C) "letter" = some none
variable {P : Program} {w : World} {K : PySem.W.Frag} {mg : Str → Option Value} {base : Heap}
abbrev s_digits : Stmt := top 29
def b1_digits : M Fl := (sSeq (sSet 5 (eOp modD (oVa (eBi intD (aCons (oVa (eOp addD (oVa (eOp addD (oVa (eOp mulI (oVar 5) (oVa (eCst (.int 48271))))) (oVa (eOp mulI (oVa (eCst (.int 974711))) (oVar 6))))) (oVa (eCst (.int 12345))))) aNil))) (oVa (eCst (.int 2147483647)))))
  (sSeq (sSet 7 (eOp modD (oVa (eBi intD (aCons (oVa (eOp mulI (oVar 5) (oVa (eOp addD (oVa (eOp divD (oVar 5) (oVa (eCst (.int 65537))))) (oVa (eCst (.int 3))))))) aNil))) (oVa (eCst (.int 2147483629)))))
  (sApp 2 (eOp modD (oVa (eOp divD (oVar 7) (oVa (eCst (.int 19))))) (oVa (eOp ixD (oVar 1) (oVar 6)))))))
def b2_digits : M Fl := (sSeq (sApp 2 (eOp modD (oVa (eBi intD (aCons (oVar 3) aNil))) (oVar 4)))
  (sSet 3 (eOp divD (oVa (eBi intD (aCons (oVar 3) aNil))) (oVar 4))))
def ev_digits : M Fl := (sSeq (sNew 2 (nLst aNil))
  (sSeq (sSet 3 (eBi intD (aCons (oVar 0) aNil)))
  (sSeq (sIf (bE (eOp geD (oVar 3) (oVa (eOp powD (oVa (eCst (.int 10))) (oVa (eCst (.int 18))))))) (sSeq (sSet 3 (eOp subD (oVar 3) (oVa (eOp powD (oVa (eCst (.int 10))) (oVa (eCst (.int 18)))))))
  (sSeq (sFor (iD (eVar 1)) (gN 4) b2_digits)
  (sFrz 2 (sRet (eVar 2))))) sNil)
  (sSeq (sSet 5 (eOp modD (oVa (eBi intD (aCons (oVar 3) aNil))) (oVa (eCst (.int 2147483629)))))
  (sSeq (sFor (iRg1 (aCons (oVa (eBi lenD (aCons (oVar 1) aNil))) aNil)) (gN 6) b1_digits)
  (sFrz 2 (sRet (eVar 2))))))))
def den_digits : List D → DR := runD [false, false] 8 ev_digits
theorem sc_digits : FnScope ["_law_cell_here", "_law_sizes", "_law_found", "_law_rest", "_law_size", "_law_seed", "_law_k", "_law_twice"] ["_law_cell_here", "_law_sizes"] (defScope s_digits) := ⟨rfl, rfl, rfl, by decide +kernel, rfl, by decide +kernel, by decide +kernel⟩
set_option maxHeartbeats 8000000 in
theorem ok_digits (T : TopFn K mg "_law_digits" s_digits) (B : Bt mg) : DefOk P w K mg base 1 "_law_digits" [false, false] den_digits := by
  refine defOk_mk (N := ["_law_cell_here", "_law_sizes", "_law_found", "_law_rest", "_law_size", "_law_seed", "_law_k", "_law_twice"]) (ps := ["_law_cell_here", "_law_sizes"]) T sc_digits rfl (by decide) (fun _ _ _ _ _ _ us hl => match us, hl with | [_, _], _ => rfl) fun f cdv A outer s H E0 hr => ?_
  exact (pd_cons (pd_new 2 sc_digits.nd (pn_lst pr_nil))
  (pd_cons (pd_set 3 sc_digits.nd (px_ty d_int rfl B.int (by decide +kernel) (pr_cons (py_var 0) pr_nil)))
  (pd_cons (pd_if (pb_cmp d_ge (py_var 3) (py_of (px_op d_pow (py_of px_int) (py_of px_int))) (nomark _)) (pd_cons (pd_set 3 sc_digits.nd (px_op d_sub (py_var 3) (py_of (px_op d_pow (py_of px_int) (py_of px_int)))))
  (pd_cons (pd_for rfl (pi_seq (px_var 1)) (pgd_name 4 sc_digits.nd) (pd_cons (pd_app 2 (px_op d_mod (py_of (px_ty d_int rfl B.int (by decide +kernel) (pr_cons (py_var 3) pr_nil))) (py_var 4)))
  (pd_one (pd_set 3 sc_digits.nd (px_op d_div (py_of (px_ty d_int rfl B.int (by decide +kernel) (pr_cons (py_var 3) pr_nil))) (py_var 4))))))
  (pd_one (pd_frz 2 (pd_ret (px_var 2)))))) pd_nil)
  (pd_cons (pd_set 5 sc_digits.nd (px_op d_mod (py_of (px_ty d_int rfl B.int (by decide +kernel) (pr_cons (py_var 3) pr_nil))) (py_of px_int)))
  (pd_cons (pd_for rfl (pi_rg1 (pr_cons (py_of (px_bi d_len rfl B.len (by decide +kernel) (pr_cons (py_var 1) pr_nil))) pr_nil) B.range) (pgd_name 6 sc_digits.nd) (pd_cons (pd_set 5 sc_digits.nd (px_op d_mod (py_of (px_ty d_int rfl B.int (by decide +kernel) (pr_cons (py_of (px_op d_add (py_of (px_op d_add (py_of (px_op d_mulI (py_var 5) (py_of px_int))) (py_of (px_op d_mulI (py_of px_int) (py_var 6))))) (py_of px_int))) pr_nil))) (py_of px_int)))
  (pd_cons (pd_set 7 sc_digits.nd (px_op d_mod (py_of (px_ty d_int rfl B.int (by decide +kernel) (pr_cons (py_of (px_op d_mulI (py_var 5) (py_of (px_op d_add (py_of (px_op d_div (py_var 5) (py_of px_int))) (py_of px_int))))) pr_nil))) (py_of px_int)))
  (pd_one (pd_app 2 (px_op d_mod (py_of (px_op d_div (py_var 7) (py_of px_int))) (py_of (px_ix d_ix (py_var 1) (py_var 6)))))))))
  (pd_one (pd_frz 2 (pd_ret (px_var 2)))))))))
abbrev s_text : Stmt := top 34
def y1_text : M D := (eOp ixD (oVar 1) (oVa (eOp ixD (oVar 2) (oVa (eOp addD (oVa (eCst (.int 1))) (oVar 3))))))
def y2_text : M D := (eBi lenD (aCons (oVar 1) aNil))
def ev_text : M Fl := (sSeq (sSet 1 (eCst (.str " abcdefghijklmnopqrstuvwxyz0123456789ABCXYZ_-.,:;!?()<>=+*/")))
  (sSeq (sSet 2 (eCall [false, false] den_digits (aCons (oVa (eVar 0)) (aCons (oVa (eOp addD (oVa (nLst (aCons (oVa (eCst (.int 16))) aNil))) (oVa (nLc (iRg1 (aCons (oVa (eCst (.int 15))) aNil)) [3] (gN 3) bYes y2_text)))) aNil))))
  (sRet (eOp addD (oVa (eCst (.str "x"))) (oVa (eJoin "" (oVa (nLc (iRg1 (aCons (oVa (eOp ixD (oVar 2) (oVa (eCst (.int 0))))) aNil)) [3] (gN 3) bYes y1_text))))))))
def den_text : List D → DR := runD [false] 4 ev_text
theorem sc_text : FnScope ["_law_cell_here", "_law_signs", "_law_digits_here", "_law_k"] ["_law_cell_here"] (defScope s_text) := ⟨rfl, rfl, rfl, by decide +kernel, rfl, by decide +kernel, by decide +kernel⟩
set_option maxHeartbeats 8000000 in
theorem ok_text (T : TopFn K mg "_law_text" s_text) (B : Bt mg) (G_digits : DefOk P w K mg base 1 "_law_digits" [false, false] den_digits) : DefOk P w K mg base 2 "_law_text" [false] den_text := by
  refine defOk_mk (N := ["_law_cell_here", "_law_signs", "_law_digits_here", "_law_k"]) (ps := ["_law_cell_here"]) T sc_text rfl (by decide) (fun _ _ _ _ _ _ us hl => match us, hl with | [_], _ => rfl) fun f cdv A outer s H E0 hr => ?_
  refine (pd_cons (pd_set 1 sc_text.nd px_str)
  (pd_cons (pd_set 2 sc_text.nd (px_call (by exact G_digits) (by exact hr.mono (by decide)) (pr_cons (py_of (px_var 0)) (pr_cons (py_of (px_op d_add (py_of (px_new (pn_lst (pr_cons (py_of px_int) pr_nil)))) (py_of (px_new ?c2)))) pr_nil))))
  (pd_one (pd_ret (px_op d_add (py_of px_str) (py_of (px_join (py_of (px_new ?c1)))))))))
  case c1 => exact pn_lc (own := [("_law_k", 3)]) sc_text.nd rfl (pi_rg1 (pr_cons (py_of (px_ix d_ix (py_var 2) (py_of px_int))) pr_nil) B.range) (by exact blkOk_by (N := ["_law_cell_here", "_law_signs", "_law_digits_here", "_law_k"]) (sc := defScope s_text) (by decide +kernel)) (fun _ _ _ _ _ => (pgd_name 3 sc_text.nd)) (fun _ _ _ _ _ => ptd_nil) (fun _ _ _ _ _ => (px_ix d_ix (py_var 1) (py_of (px_ix d_ix (py_var 2) (py_of (px_op d_add (py_of px_int) (py_var 3)))))))
  case c2 => exact pn_lc (own := [("_law_k", 3)]) sc_text.nd rfl (pi_rg1 (pr_cons (py_of px_int) pr_nil) B.range) (by exact blkOk_by (N := ["_law_cell_here", "_law_signs", "_law_digits_here", "_law_k"]) (sc := defScope s_text) (by decide +kernel)) (fun _ _ _ _ _ => (pgd_name 3 sc_text.nd)) (fun _ _ _ _ _ => ptd_nil) (fun _ _ _ _ _ => (px_bi d_len rfl B.len (by decide +kernel) (pr_cons (py_var 1) pr_nil)))
abbrev s_filled : Stmt := top 31
def ev_filled : M Fl := (sSeq (sIf (bE (eOp eqD (oVar 0) (oVa (eCst (.int 12))))) (sRet (eExn1 "NoSuchRelation" "name" (eVar 1))) sNil)
  (sSeq (sIf (bE (eOp eqD (oVar 0) (oVa (eCst (.int 13))))) (sRet (eExn1 "BadRow" "row" (eVar 3))) sNil)
  (sSeq (sIf (bE (eOp eqD (oVar 0) (oVa (eCst (.int 14))))) (sRet (eExn1 "BadText" "place" (eVar 2))) sNil)
  (sSeq (sIf (bE (eOp eqD (oVar 0) (oVa (eCst (.int 15))))) (sRet (eExn1 "Unvalued" "variable" (eVar 1))) sNil)
  (sSeq (sIf (bE (eOp eqD (oVar 0) (oVa (eCst (.int 16))))) (sRet (eExn1 "TooMany" "limit" (eVar 2))) sNil)
  (sSeq (sIf (bE (eOp eqD (oVar 0) (oVa (eCst (.int 17))))) (sRet (eExn1 "BadSide" "side" (eVar 1))) sNil)
  (sSeq (sIf (bE (eOp eqD (oVar 0) (oVa (eCst (.int 18))))) (sRet (eExn1 "TooLong" "length" (eVar 2))) sNil)
  (sSeq (sIf (bE (eOp eqD (oVar 0) (oVa (eCst (.int 19))))) (sRet (eExn1 "TakenName" "name" (eVar 1))) sNil)
  (sSeq (sIf (bE (eOp eqD (oVar 0) (oVa (eCst (.int 20))))) (sRet (eExn1 "UnknownWatch" "name" (eVar 1))) sNil)
  (sSeq (sIf (bE (eOp eqD (oVar 0) (oVa (eCst (.int 21))))) (sRet (eExn1 "NoSuchWord" "word" (eVar 1))) sNil)
  (sSeq (sIf (bE (eOp eqD (oVar 0) (oVa (eCst (.int 22))))) (sRet (eExn1 "BadNote" "line" (eVar 2))) sNil)
  (sRet (eExn1 "BadLetter" "letter" (eVar 2))))))))))))))
def den_filled : List D → DR := runD [false, false, false, false] 4 ev_filled
theorem sc_filled : FnScope ["_law_kind", "_law_text_here", "_law_number", "_law_row"] ["_law_kind", "_law_text_here", "_law_number", "_law_row"] (defScope s_filled) := ⟨rfl, rfl, rfl, by decide +kernel, rfl, by decide +kernel, by decide +kernel⟩
set_option maxHeartbeats 8000000 in
theorem ok_filled (T : TopFn K mg "_law_filled" s_filled) (B : Bt mg) (E : Ex P w K mg base) : DefOk P w K mg base 3 "_law_filled" [false, false, false, false] den_filled := by
  refine defOk_mk (N := ["_law_kind", "_law_text_here", "_law_number", "_law_row"]) (ps := ["_law_kind", "_law_text_here", "_law_number", "_law_row"]) T sc_filled rfl (by decide) (fun _ _ _ _ _ _ us hl => match us, hl with | [_, _, _, _], _ => rfl) fun f cdv A outer s H E0 hr => ?_
  exact (pd_cons (pd_if (pb_cmp (d_eq (hu64 hr)) (py_var 0) (py_of px_int) (nomark _)) (pd_one (pd_ret (px_exn1 (k := 0) E.xNoSuchRelation (hr.mono (by decide)) (px_var 1)))) pd_nil)
  (pd_cons (pd_if (pb_cmp (d_eq (hu64 hr)) (py_var 0) (py_of px_int) (nomark _)) (pd_one (pd_ret (px_exn1 (k := 0) E.xBadRow (hr.mono (by decide)) (px_var 3)))) pd_nil)
  (pd_cons (pd_if (pb_cmp (d_eq (hu64 hr)) (py_var 0) (py_of px_int) (nomark _)) (pd_one (pd_ret (px_exn1 (k := 0) E.xBadText (hr.mono (by decide)) (px_var 2)))) pd_nil)
  (pd_cons (pd_if (pb_cmp (d_eq (hu64 hr)) (py_var 0) (py_of px_int) (nomark _)) (pd_one (pd_ret (px_exn1 (k := 0) E.xUnvalued (hr.mono (by decide)) (px_var 1)))) pd_nil)
  (pd_cons (pd_if (pb_cmp (d_eq (hu64 hr)) (py_var 0) (py_of px_int) (nomark _)) (pd_one (pd_ret (px_exn1 (k := 0) E.xTooMany (hr.mono (by decide)) (px_var 2)))) pd_nil)
  (pd_cons (pd_if (pb_cmp (d_eq (hu64 hr)) (py_var 0) (py_of px_int) (nomark _)) (pd_one (pd_ret (px_exn1 (k := 0) E.xBadSide (hr.mono (by decide)) (px_var 1)))) pd_nil)
  (pd_cons (pd_if (pb_cmp (d_eq (hu64 hr)) (py_var 0) (py_of px_int) (nomark _)) (pd_one (pd_ret (px_exn1 (k := 0) E.xTooLong (hr.mono (by decide)) (px_var 2)))) pd_nil)
  (pd_cons (pd_if (pb_cmp (d_eq (hu64 hr)) (py_var 0) (py_of px_int) (nomark _)) (pd_one (pd_ret (px_exn1 (k := 0) E.xTakenName (hr.mono (by decide)) (px_var 1)))) pd_nil)
  (pd_cons (pd_if (pb_cmp (d_eq (hu64 hr)) (py_var 0) (py_of px_int) (nomark _)) (pd_one (pd_ret (px_exn1 (k := 0) E.xUnknownWatch (hr.mono (by decide)) (px_var 1)))) pd_nil)
  (pd_cons (pd_if (pb_cmp (d_eq (hu64 hr)) (py_var 0) (py_of px_int) (nomark _)) (pd_one (pd_ret (px_exn1 (k := 0) E.xNoSuchWord (hr.mono (by decide)) (px_var 1)))) pd_nil)
  (pd_cons (pd_if (pb_cmp (d_eq (hu64 hr)) (py_var 0) (py_of px_int) (nomark _)) (pd_one (pd_ret (px_exn1 (k := 0) E.xBadNote (hr.mono (by decide)) (px_var 2)))) pd_nil)
  (pd_one (pd_ret (px_exn1 (k := 0) E.xBadLetter (hr.mono (by decide)) (px_var 2)))))))))))))))
abbrev s_plain : Stmt := top 30
def ev_plain : M Fl := (sSeq (sIf (bE (eOp eqD (oVar 0) (oVa (eCst (.int 0))))) (sRet (eExn0 "BadWorld")) sNil)
  (sSeq (sIf (bE (eOp eqD (oVar 0) (oVa (eCst (.int 1))))) (sRet (eExn0 "BadOrder")) sNil)
  (sSeq (sIf (bE (eOp eqD (oVar 0) (oVa (eCst (.int 2))))) (sRet (eExn0 "BadQuestion")) sNil)
  (sSeq (sIf (bE (eOp eqD (oVar 0) (oVa (eCst (.int 3))))) (sRet (eExn0 "BadValues")) sNil)
  (sSeq (sIf (bE (eOp eqD (oVar 0) (oVa (eCst (.int 4))))) (sRet (eExn0 "NotAWalk")) sNil)
  (sSeq (sIf (bE (eOp eqD (oVar 0) (oVa (eCst (.int 5))))) (sRet (eExn0 "BadJudge")) sNil)
  (sSeq (sIf (bE (eOp eqD (oVar 0) (oVa (eCst (.int 6))))) (sRet (eExn0 "BadGiven")) sNil)
  (sSeq (sIf (bE (eOp eqD (oVar 0) (oVa (eCst (.int 7))))) (sRet (eExn0 "BadStanding")) sNil)
  (sSeq (sIf (bE (eOp eqD (oVar 0) (oVa (eCst (.int 8))))) (sRet (eExn0 "NotRight")) sNil)
  (sSeq (sIf (bE (eOp eqD (oVar 0) (oVa (eCst (.int 9))))) (sRet (eExn0 "TooLarge")) sNil)
  (sSeq (sIf (bE (eOp eqD (oVar 0) (oVa (eCst (.int 10))))) (sRet (eExn0 "NothingToUndo")) sNil)
  (sRet (eExn0 "BadDeed")))))))))))))
def den_plain : List D → DR := runD [false] 1 ev_plain
theorem sc_plain : FnScope ["_law_kind"] ["_law_kind"] (defScope s_plain) := ⟨rfl, rfl, rfl, by decide +kernel, rfl, by decide +kernel, by decide +kernel⟩
set_option maxHeartbeats 8000000 in
theorem ok_plain (T : TopFn K mg "_law_plain" s_plain) (B : Bt mg) (E : Ex P w K mg base) : DefOk P w K mg base 1 "_law_plain" [false] den_plain := by
  refine defOk_mk (N := ["_law_kind"]) (ps := ["_law_kind"]) T sc_plain rfl (by decide) (fun _ _ _ _ _ _ us hl => match us, hl with | [_], _ => rfl) fun f cdv A outer s H E0 hr => ?_
  exact (pd_cons (pd_if (pb_cmp (d_eq (hu64 hr)) (py_var 0) (py_of px_int) (nomark _)) (pd_one (pd_ret (px_exn0 E.xBadWorld))) pd_nil)
  (pd_cons (pd_if (pb_cmp (d_eq (hu64 hr)) (py_var 0) (py_of px_int) (nomark _)) (pd_one (pd_ret (px_exn0 E.xBadOrder))) pd_nil)
  (pd_cons (pd_if (pb_cmp (d_eq (hu64 hr)) (py_var 0) (py_of px_int) (nomark _)) (pd_one (pd_ret (px_exn0 E.xBadQuestion))) pd_nil)
  (pd_cons (pd_if (pb_cmp (d_eq (hu64 hr)) (py_var 0) (py_of px_int) (nomark _)) (pd_one (pd_ret (px_exn0 E.xBadValues))) pd_nil)
  (pd_cons (pd_if (pb_cmp (d_eq (hu64 hr)) (py_var 0) (py_of px_int) (nomark _)) (pd_one (pd_ret (px_exn0 E.xNotAWalk))) pd_nil)
  (pd_cons (pd_if (pb_cmp (d_eq (hu64 hr)) (py_var 0) (py_of px_int) (nomark _)) (pd_one (pd_ret (px_exn0 E.xBadJudge))) pd_nil)
  (pd_cons (pd_if (pb_cmp (d_eq (hu64 hr)) (py_var 0) (py_of px_int) (nomark _)) (pd_one (pd_ret (px_exn0 E.xBadGiven))) pd_nil)
  (pd_cons (pd_if (pb_cmp (d_eq (hu64 hr)) (py_var 0) (py_of px_int) (nomark _)) (pd_one (pd_ret (px_exn0 E.xBadStanding))) pd_nil)
  (pd_cons (pd_if (pb_cmp (d_eq (hu64 hr)) (py_var 0) (py_of px_int) (nomark _)) (pd_one (pd_ret (px_exn0 E.xNotRight))) pd_nil)
  (pd_cons (pd_if (pb_cmp (d_eq (hu64 hr)) (py_var 0) (py_of px_int) (nomark _)) (pd_one (pd_ret (px_exn0 E.xTooLarge))) pd_nil)
  (pd_cons (pd_if (pb_cmp (d_eq (hu64 hr)) (py_var 0) (py_of px_int) (nomark _)) (pd_one (pd_ret (px_exn0 E.xNothingToUndo))) pd_nil)
  (pd_one (pd_ret (px_exn0 E.xBadDeed))))))))))))))
abbrev s_error : Stmt := top 35
def ev_error : M Fl := (sSeq (sIf (bE (eOp ltD (oVar 0) (oVa (eCst (.int 12))))) (sRet (eCall [false] den_plain (aCons (oVa (eVar 0)) aNil))) sNil)
  (sRet (eCall [false, false, false, false] den_filled (aCons (oVa (eVar 0)) (aCons (oVa (eVar 1)) (aCons (oVa (eVar 2)) (aCons (oVa (eVar 3)) aNil)))))))
def den_error : List D → DR := runD [false, false, false, false] 4 ev_error
theorem sc_error : FnScope ["_law_kind", "_law_text_here", "_law_number", "_law_row"] ["_law_kind", "_law_text_here", "_law_number", "_law_row"] (defScope s_error) := ⟨rfl, rfl, rfl, by decide +kernel, rfl, by decide +kernel, by decide +kernel⟩
set_option maxHeartbeats 8000000 in
theorem ok_error (T : TopFn K mg "_law_error" s_error) (B : Bt mg) (G_filled : DefOk P w K mg base 3 "_law_filled" [false, false, false, false] den_filled) (G_plain : DefOk P w K mg base 1 "_law_plain" [false] den_plain) : DefOk P w K mg base 4 "_law_error" [false, false, false, false] den_error := by
  refine defOk_mk (N := ["_law_kind", "_law_text_here", "_law_number", "_law_row"]) (ps := ["_law_kind", "_law_text_here", "_law_number", "_law_row"]) T sc_error rfl (by decide) (fun _ _ _ _ _ _ us hl => match us, hl with | [_, _, _, _], _ => rfl) fun f cdv A outer s H E0 hr => ?_
  exact (pd_cons (pd_if (pb_cmp d_lt (py_var 0) (py_of px_int) (nomark _)) (pd_one (pd_ret (px_call (by exact G_plain) (by exact hr.mono (by decide)) (pr_cons (py_of (px_var 0)) pr_nil)))) pd_nil)
  (pd_one (pd_ret (px_call (by exact G_filled) (by exact hr.mono (by decide)) (pr_cons (py_of (px_var 0)) (pr_cons (py_of (px_var 1)) (pr_cons (py_of (px_var 2)) (pr_cons (py_of (px_var 3)) pr_nil))))))))
abbrev s_cell : Stmt := top 28
def b1_cell : M Fl := (sSet 2 (eOp modD (oVa (eBi intD (aCons (oVa (eOp addD (oVa (eOp mulI (oVar 2) (oVa (eCst (.int 31))))) (oVa (eOp modD (oVa (eBi intD (aCons (oVar 3) aNil))) (oVa (eCst (.int 1000003))))))) aNil))) (oVa (eCst (.int 1000003)))))
def ev_cell : M Fl := (sSeq (sIf (bE (eOp ltD (oVar 1) (oVa (eBi lenD (aCons (oVar 0) aNil))))) (sRet (eOp ixD (oVar 0) (oVar 1))) sNil)
  (sSeq (sSet 2 (eCst (.int 17)))
  (sSeq (sFor (iD (eVar 0)) (gN 3) b1_cell)
  (sRet (eOp modD (oVa (eBi intD (aCons (oVa (eOp mulI (oVa (eOp mulI (oVa (eOp addD (oVar 2) (oVa (eCst (.int 7))))) (oVa (eOp addD (oVar 1) (oVa (eCst (.int 3))))))) (oVa (eCst (.int 69621))))) aNil))) (oVa (eCst (.int 2147483647))))))))
def den_cell : List D → DR := runD [false, false] 4 ev_cell
theorem sc_cell : FnScope ["_law_script", "_law_k", "_law_seed", "_law_cell_here"] ["_law_script", "_law_k"] (defScope s_cell) := ⟨rfl, rfl, rfl, by decide +kernel, rfl, by decide +kernel, by decide +kernel⟩
set_option maxHeartbeats 8000000 in
theorem ok_cell (T : TopFn K mg "_law_cell" s_cell) (B : Bt mg) : DefOk P w K mg base 1 "_law_cell" [false, false] den_cell := by
  refine defOk_mk (N := ["_law_script", "_law_k", "_law_seed", "_law_cell_here"]) (ps := ["_law_script", "_law_k"]) T sc_cell rfl (by decide) (fun _ _ _ _ _ _ us hl => match us, hl with | [_, _], _ => rfl) fun f cdv A outer s H E0 hr => ?_
  exact (pd_cons (pd_if (pb_cmp d_lt (py_var 1) (py_of (px_bi d_len rfl B.len (by decide +kernel) (pr_cons (py_var 0) pr_nil))) (nomark _)) (pd_one (pd_ret (px_ix d_ix (py_var 0) (py_var 1)))) pd_nil)
  (pd_cons (pd_set 2 sc_cell.nd px_int)
  (pd_cons (pd_for rfl (pi_seq (px_var 0)) (pgd_name 3 sc_cell.nd) (pd_one (pd_set 2 sc_cell.nd (px_op d_mod (py_of (px_ty d_int rfl B.int (by decide +kernel) (pr_cons (py_of (px_op d_add (py_of (px_op d_mulI (py_var 2) (py_of px_int))) (py_of (px_op d_mod (py_of (px_ty d_int rfl B.int (by decide +kernel) (pr_cons (py_var 3) pr_nil))) (py_of px_int))))) pr_nil))) (py_of px_int)))))
  (pd_one (pd_ret (px_op d_mod (py_of (px_ty d_int rfl B.int (by decide +kernel) (pr_cons (py_of (px_op d_mulI (py_of (px_op d_mulI (py_of (px_op d_add (py_var 2) (py_of px_int))) (py_of (px_op d_add (py_var 1) (py_of px_int))))) (py_of px_int))) pr_nil))) (py_of px_int)))))))
abbrev s_whole : Stmt := top 27
def ev_whole : M Fl := (sRet (eAnd (eIs c_int (oVar 0)) (eB (bNot (bE (eIs c_bool (oVar 0)))))))
def den_whole : List D → DR := runD [false] 1 ev_whole
theorem sc_whole : FnScope ["_law_value"] ["_law_value"] (defScope s_whole) := ⟨rfl, rfl, rfl, by decide +kernel, rfl, by decide +kernel, by decide +kernel⟩
set_option maxHeartbeats 8000000 in
theorem ok_whole (T : TopFn K mg "_law_whole" s_whole) (B : Bt mg) (E : Ex P w K mg base) : DefOk P w K mg base 1 "_law_whole" [false] den_whole := by
  refine defOk_mk (N := ["_law_value"]) (ps := ["_law_value"]) T sc_whole rfl (by decide) (fun _ _ _ _ _ _ us hl => match us, hl with | [_], _ => rfl) fun f cdv A outer s H E0 hr => ?_
  exact (pd_one (pd_ret (px_and (px_isT (T := "int") E.i_int (py_var 0) B.int B.isinstance (by decide +kernel)) (px_one (px_not (px_isT (T := "bool") E.i_bool (py_var 0) B.bool B.isinstance (by decide +kernel)))))))
abbrev s_holds_field : Stmt := top 33
def ev_holds_field : M Fl := (sSeq (sIf (bE (eOp eqD (oVar 1) (oVa (eCst (.int 13))))) (sRet (eAnd (eIs c_tuple (oVa (eFldX ok_row "row" (eVar 0)))) (eOp eqD (oVa (eFldX ok_row "row" (eVar 0))) (oVar 4)))) sNil)
  (sSeq (sIf (bE (eOp eqD (oVar 1) (oVa (eCst (.int 14))))) (sRet (eAnd (eCall [false] den_whole (aCons (oVa (eFldX ok_place "place" (eVar 0))) aNil)) (eOp eqD (oVa (eFldX ok_place "place" (eVar 0))) (oVar 3)))) sNil)
  (sSeq (sIf (bE (eOp eqD (oVar 1) (oVa (eCst (.int 16))))) (sRet (eAnd (eCall [false] den_whole (aCons (oVa (eFldX ok_limit "limit" (eVar 0))) aNil)) (eOp eqD (oVa (eFldX ok_limit "limit" (eVar 0))) (oVar 3)))) sNil)
  (sSeq (sIf (bE (eOp eqD (oVar 1) (oVa (eCst (.int 18))))) (sRet (eAnd (eCall [false] den_whole (aCons (oVa (eFldX ok_length "length" (eVar 0))) aNil)) (eOp eqD (oVa (eFldX ok_length "length" (eVar 0))) (oVar 3)))) sNil)
  (sSeq (sIf (bE (eOp eqD (oVar 1) (oVa (eCst (.int 22))))) (sRet (eAnd (eCall [false] den_whole (aCons (oVa (eFldX ok_line "line" (eVar 0))) aNil)) (eOp eqD (oVa (eFldX ok_line "line" (eVar 0))) (oVar 3)))) sNil)
  (sSeq (sIf (bE (eOp eqD (oVar 1) (oVa (eCst (.int 23))))) (sRet (eAnd (eCall [false] den_whole (aCons (oVa (eFldX ok_letter "letter" (eVar 0))) aNil)) (eOp eqD (oVa (eFldX ok_letter "letter" (eVar 0))) (oVar 3)))) sNil)
  (sSeq (sSet 5 (eCst (.str "")))
  (sSeq (sIf (bOr (bE (eOp eqD (oVar 1) (oVa (eCst (.int 12))))) (bOr (bE (eOp eqD (oVar 1) (oVa (eCst (.int 19))))) (bE (eOp eqD (oVar 1) (oVa (eCst (.int 20))))))) (sSet 5 (eFldX ok_name "name" (eVar 0))) sNil)
  (sSeq (sIf (bE (eOp eqD (oVar 1) (oVa (eCst (.int 15))))) (sSet 5 (eFldX ok_variable "variable" (eVar 0))) sNil)
  (sSeq (sIf (bE (eOp eqD (oVar 1) (oVa (eCst (.int 17))))) (sSet 5 (eFldX ok_side "side" (eVar 0))) sNil)
  (sSeq (sIf (bE (eOp eqD (oVar 1) (oVa (eCst (.int 21))))) (sSet 5 (eFldX ok_word "word" (eVar 0))) sNil)
  (sRet (eAnd (eIs c_str (oVar 5)) (eOp eqD (oVar 5) (oVar 2)))))))))))))))
def den_holds_field : List D → DR := runD [false, false, false, false, false] 6 ev_holds_field
theorem sc_holds_field : FnScope ["_law_e", "_law_kind", "_law_text_here", "_law_number", "_law_row", "_law_told"] ["_law_e", "_law_kind", "_law_text_here", "_law_number", "_law_row"] (defScope s_holds_field) := ⟨rfl, rfl, rfl, by decide +kernel, rfl, by decide +kernel, by decide +kernel⟩
set_option maxHeartbeats 8000000 in
theorem ok_holds_field (T : TopFn K mg "_law_holds_field" s_holds_field) (B : Bt mg) (E : Ex P w K mg base) (G_whole : DefOk P w K mg base 1 "_law_whole" [false] den_whole) : DefOk P w K mg base 2 "_law_holds_field" [false, false, false, false, false] den_holds_field := by
  refine defOk_mk (N := ["_law_e", "_law_kind", "_law_text_here", "_law_number", "_law_row", "_law_told"]) (ps := ["_law_e", "_law_kind", "_law_text_here", "_law_number", "_law_row"]) T sc_holds_field rfl (by decide) (fun _ _ _ _ _ _ us hl => match us, hl with | [_, _, _, _, _], _ => rfl) fun f cdv A outer s H E0 hr => ?_
  exact (pd_cons (pd_if (pb_cmp (d_eq (hu64 hr)) (py_var 1) (py_of px_int) (nomark _)) (pd_one (pd_ret (px_and (px_isT (T := "tuple") E.i_tuple (py_of (px_fldX E.f_row (px_var 0))) B.tuple B.isinstance (by decide +kernel)) (px_one (px_cmp (d_eq (hu64 hr)) (py_of (px_fldX E.f_row (px_var 0))) (py_var 4) (nomark _)))))) pd_nil)
  (pd_cons (pd_if (pb_cmp (d_eq (hu64 hr)) (py_var 1) (py_of px_int) (nomark _)) (pd_one (pd_ret (px_and (px_call (by exact G_whole) (by exact hr.mono (by decide)) (pr_cons (py_of (px_fldX E.f_place (px_var 0))) pr_nil)) (px_one (px_cmp (d_eq (hu64 hr)) (py_of (px_fldX E.f_place (px_var 0))) (py_var 3) (nomark _)))))) pd_nil)
  (pd_cons (pd_if (pb_cmp (d_eq (hu64 hr)) (py_var 1) (py_of px_int) (nomark _)) (pd_one (pd_ret (px_and (px_call (by exact G_whole) (by exact hr.mono (by decide)) (pr_cons (py_of (px_fldX E.f_limit (px_var 0))) pr_nil)) (px_one (px_cmp (d_eq (hu64 hr)) (py_of (px_fldX E.f_limit (px_var 0))) (py_var 3) (nomark _)))))) pd_nil)
  (pd_cons (pd_if (pb_cmp (d_eq (hu64 hr)) (py_var 1) (py_of px_int) (nomark _)) (pd_one (pd_ret (px_and (px_call (by exact G_whole) (by exact hr.mono (by decide)) (pr_cons (py_of (px_fldX E.f_length (px_var 0))) pr_nil)) (px_one (px_cmp (d_eq (hu64 hr)) (py_of (px_fldX E.f_length (px_var 0))) (py_var 3) (nomark _)))))) pd_nil)
  (pd_cons (pd_if (pb_cmp (d_eq (hu64 hr)) (py_var 1) (py_of px_int) (nomark _)) (pd_one (pd_ret (px_and (px_call (by exact G_whole) (by exact hr.mono (by decide)) (pr_cons (py_of (px_fldX E.f_line (px_var 0))) pr_nil)) (px_one (px_cmp (d_eq (hu64 hr)) (py_of (px_fldX E.f_line (px_var 0))) (py_var 3) (nomark _)))))) pd_nil)
  (pd_cons (pd_if (pb_cmp (d_eq (hu64 hr)) (py_var 1) (py_of px_int) (nomark _)) (pd_one (pd_ret (px_and (px_call (by exact G_whole) (by exact hr.mono (by decide)) (pr_cons (py_of (px_fldX E.f_letter (px_var 0))) pr_nil)) (px_one (px_cmp (d_eq (hu64 hr)) (py_of (px_fldX E.f_letter (px_var 0))) (py_var 3) (nomark _)))))) pd_nil)
  (pd_cons (pd_set 5 sc_holds_field.nd px_str)
  (pd_cons (pd_if (pb_w (pbw_or (pb_cmp (d_eq (hu64 hr)) (py_var 1) (py_of px_int) (nomark _)) (pbw_or (pb_cmp (d_eq (hu64 hr)) (py_var 1) (py_of px_int) (nomark _)) (pbw_or1 (pb_cmp (d_eq (hu64 hr)) (py_var 1) (py_of px_int) (nomark _)))))) (pd_one (pd_set 5 sc_holds_field.nd (px_fldX E.f_name (px_var 0)))) pd_nil)
  (pd_cons (pd_if (pb_cmp (d_eq (hu64 hr)) (py_var 1) (py_of px_int) (nomark _)) (pd_one (pd_set 5 sc_holds_field.nd (px_fldX E.f_variable (px_var 0)))) pd_nil)
  (pd_cons (pd_if (pb_cmp (d_eq (hu64 hr)) (py_var 1) (py_of px_int) (nomark _)) (pd_one (pd_set 5 sc_holds_field.nd (px_fldX E.f_side (px_var 0)))) pd_nil)
  (pd_cons (pd_if (pb_cmp (d_eq (hu64 hr)) (py_var 1) (py_of px_int) (nomark _)) (pd_one (pd_set 5 sc_holds_field.nd (px_fldX E.f_word (px_var 0)))) pd_nil)
  (pd_one (pd_ret (px_and (px_isT (T := "str") E.i_str (py_var 5) B.str B.isinstance (by decide +kernel)) (px_one (px_cmp (d_eq (hu64 hr)) (py_var 5) (py_var 2) (nomark _)))))))))))))))))
abbrev s_classes : Stmt := top 32
def y1_classes : M D := (eVar 2)
def t2_classes : M Bool := (bE (eOp ixD (oVar 1) (oVar 2)))
def ev_classes : M Fl := (sSeq (sSet 1 (nLst (aCons (oVa (eIs c_BadWorld (oVar 0))) (aCons (oVa (eIs c_BadOrder (oVar 0))) (aCons (oVa (eIs c_BadQuestion (oVar 0))) (aCons (oVa (eIs c_BadValues (oVar 0))) aNil))))))
  (sSeq (sSet 1 (eOp addD (oVar 1) (oVa (nLst (aCons (oVa (eIs c_NotAWalk (oVar 0))) (aCons (oVa (eIs c_BadJudge (oVar 0))) (aCons (oVa (eIs c_BadGiven (oVar 0))) aNil)))))))
  (sSeq (sSet 1 (eOp addD (oVar 1) (oVa (nLst (aCons (oVa (eIs c_BadStanding (oVar 0))) (aCons (oVa (eIs c_NotRight (oVar 0))) (aCons (oVa (eIs c_TooLarge (oVar 0))) aNil)))))))
  (sSeq (sSet 1 (eOp addD (oVar 1) (oVa (nLst (aCons (oVa (eIs c_NothingToUndo (oVar 0))) (aCons (oVa (eIs c_BadDeed (oVar 0))) (aCons (oVa (eIs c_NoSuchRelation (oVar 0))) aNil)))))))
  (sSeq (sSet 1 (eOp addD (oVar 1) (oVa (nLst (aCons (oVa (eIs c_BadRow (oVar 0))) (aCons (oVa (eIs c_BadText (oVar 0))) (aCons (oVa (eIs c_Unvalued (oVar 0))) (aCons (oVa (eIs c_TooMany (oVar 0))) aNil))))))))
  (sSeq (sSet 1 (eOp addD (oVar 1) (oVa (nLst (aCons (oVa (eIs c_BadSide (oVar 0))) (aCons (oVa (eIs c_TooLong (oVar 0))) (aCons (oVa (eIs c_TakenName (oVar 0))) aNil)))))))
  (sSeq (sSet 1 (eOp addD (oVar 1) (oVa (nLst (aCons (oVa (eIs c_UnknownWatch (oVar 0))) (aCons (oVa (eIs c_NoSuchWord (oVar 0))) (aCons (oVa (eIs c_BadNote (oVar 0))) aNil)))))))
  (sSeq (sSet 1 (eOp addD (oVar 1) (oVa (nLst (aCons (oVa (eIs c_BadLetter (oVar 0))) aNil)))))
  (sRet (nLc (iRg1 (aCons (oVa (eCst (.int 24))) aNil)) [2] (gN 2) t2_classes y1_classes))))))))))
def den_classes : List D → DR := runD [false] 3 ev_classes
theorem sc_classes : FnScope ["_law_e", "_law_first", "_law_k"] ["_law_e"] (defScope s_classes) := ⟨rfl, rfl, rfl, by decide +kernel, rfl, by decide +kernel, by decide +kernel⟩
set_option maxHeartbeats 8000000 in
theorem ok_classes (T : TopFn K mg "_law_classes" s_classes) (B : Bt mg) (E : Ex P w K mg base) : DefOk P w K mg base 1 "_law_classes" [false] den_classes := by
  refine defOk_mk (N := ["_law_e", "_law_first", "_law_k"]) (ps := ["_law_e"]) T sc_classes rfl (by decide) (fun _ _ _ _ _ _ us hl => match us, hl with | [_], _ => rfl) fun f cdv A outer s H E0 hr => ?_
  refine (pd_cons (pd_set 1 sc_classes.nd (px_new (pn_lst (pr_cons (py_of (px_isO E.i_BadWorld (py_var 0) B.isinstance)) (pr_cons (py_of (px_isO E.i_BadOrder (py_var 0) B.isinstance)) (pr_cons (py_of (px_isO E.i_BadQuestion (py_var 0) B.isinstance)) (pr_cons (py_of (px_isO E.i_BadValues (py_var 0) B.isinstance)) pr_nil)))))))
  (pd_cons (pd_set 1 sc_classes.nd (px_op d_add (py_var 1) (py_of (px_new (pn_lst (pr_cons (py_of (px_isO E.i_NotAWalk (py_var 0) B.isinstance)) (pr_cons (py_of (px_isO E.i_BadJudge (py_var 0) B.isinstance)) (pr_cons (py_of (px_isO E.i_BadGiven (py_var 0) B.isinstance)) pr_nil))))))))
  (pd_cons (pd_set 1 sc_classes.nd (px_op d_add (py_var 1) (py_of (px_new (pn_lst (pr_cons (py_of (px_isO E.i_BadStanding (py_var 0) B.isinstance)) (pr_cons (py_of (px_isO E.i_NotRight (py_var 0) B.isinstance)) (pr_cons (py_of (px_isO E.i_TooLarge (py_var 0) B.isinstance)) pr_nil))))))))
  (pd_cons (pd_set 1 sc_classes.nd (px_op d_add (py_var 1) (py_of (px_new (pn_lst (pr_cons (py_of (px_isO E.i_NothingToUndo (py_var 0) B.isinstance)) (pr_cons (py_of (px_isO E.i_BadDeed (py_var 0) B.isinstance)) (pr_cons (py_of (px_isO E.i_NoSuchRelation (py_var 0) B.isinstance)) pr_nil))))))))
  (pd_cons (pd_set 1 sc_classes.nd (px_op d_add (py_var 1) (py_of (px_new (pn_lst (pr_cons (py_of (px_isO E.i_BadRow (py_var 0) B.isinstance)) (pr_cons (py_of (px_isO E.i_BadText (py_var 0) B.isinstance)) (pr_cons (py_of (px_isO E.i_Unvalued (py_var 0) B.isinstance)) (pr_cons (py_of (px_isO E.i_TooMany (py_var 0) B.isinstance)) pr_nil)))))))))
  (pd_cons (pd_set 1 sc_classes.nd (px_op d_add (py_var 1) (py_of (px_new (pn_lst (pr_cons (py_of (px_isO E.i_BadSide (py_var 0) B.isinstance)) (pr_cons (py_of (px_isO E.i_TooLong (py_var 0) B.isinstance)) (pr_cons (py_of (px_isO E.i_TakenName (py_var 0) B.isinstance)) pr_nil))))))))
  (pd_cons (pd_set 1 sc_classes.nd (px_op d_add (py_var 1) (py_of (px_new (pn_lst (pr_cons (py_of (px_isO E.i_UnknownWatch (py_var 0) B.isinstance)) (pr_cons (py_of (px_isO E.i_NoSuchWord (py_var 0) B.isinstance)) (pr_cons (py_of (px_isO E.i_BadNote (py_var 0) B.isinstance)) pr_nil))))))))
  (pd_cons (pd_set 1 sc_classes.nd (px_op d_add (py_var 1) (py_of (px_new (pn_lst (pr_cons (py_of (px_isO E.i_BadLetter (py_var 0) B.isinstance)) pr_nil))))))
  (pd_one (pd_ret (px_new ?c1)))))))))))
  case c1 => exact pn_lc (own := [("_law_k", 2)]) sc_classes.nd rfl (pi_rg1 (pr_cons (py_of px_int) pr_nil) B.range) (by exact blkOk_by (N := ["_law_e", "_law_first", "_law_k"]) (sc := defScope s_classes) (by decide +kernel)) (fun _ _ _ _ _ => (pgd_name 2 sc_classes.nd)) (fun _ _ _ _ _ => (ptd_one (pb_val (px_ix d_ix (py_var 1) (py_var 2))))) (fun _ _ _ _ _ => (px_var 2))
abbrev s_is_error : Stmt := top 36
def ev_is_error : M Fl := (sSeq (sIf (bOr (bE (eOp neD (oVa (eCall [false] den_classes (aCons (oVa (eVar 0)) aNil))) (oVa (nLst (aCons (oVa (eVar 1)) aNil))))) (bOr (bNot (bE (eIs c_OnceError (oVar 0)))) (bNot (bE (eIs c_ValueError (oVar 0)))))) (sRet (eCst (.bl false))) sNil)
  (sRet (eOr (eOp ltD (oVar 1) (oVa (eCst (.int 12)))) (eCall [false, false, false, false, false] den_holds_field (aCons (oVa (eVar 0)) (aCons (oVa (eVar 1)) (aCons (oVa (eVar 2)) (aCons (oVa (eVar 3)) (aCons (oVa (eVar 4)) aNil)))))))))
def den_is_error : List D → DR := runD [false, false, false, false, false] 5 ev_is_error
theorem sc_is_error : FnScope ["_law_e", "_law_kind", "_law_text_here", "_law_number", "_law_row"] ["_law_e", "_law_kind", "_law_text_here", "_law_number", "_law_row"] (defScope s_is_error) := ⟨rfl, rfl, rfl, by decide +kernel, rfl, by decide +kernel, by decide +kernel⟩
set_option maxHeartbeats 8000000 in
theorem ok_is_error (T : TopFn K mg "_law_is_error" s_is_error) (B : Bt mg) (E : Ex P w K mg base) (G_holds_field : DefOk P w K mg base 2 "_law_holds_field" [false, false, false, false, false] den_holds_field) (G_classes : DefOk P w K mg base 1 "_law_classes" [false] den_classes) : DefOk P w K mg base 3 "_law_is_error" [false, false, false, false, false] den_is_error := by
  refine defOk_mk (N := ["_law_e", "_law_kind", "_law_text_here", "_law_number", "_law_row"]) (ps := ["_law_e", "_law_kind", "_law_text_here", "_law_number", "_law_row"]) T sc_is_error rfl (by decide) (fun _ _ _ _ _ _ us hl => match us, hl with | [_, _, _, _, _], _ => rfl) fun f cdv A outer s H E0 hr => ?_
  exact (pd_cons (pd_if (pb_w (pbw_or (pb_cmp (d_ne (hu64 hr)) (py_of (px_call (by exact G_classes) (by exact hr.mono (by decide)) (pr_cons (py_of (px_var 0)) pr_nil))) (py_of (px_new (pn_lst (pr_cons (py_of (px_var 1)) pr_nil)))) (nomark _)) (pbw_or (pb_not (pb_val (px_isO E.i_OnceError (py_var 0) B.isinstance))) (pbw_or1 (pb_not (pb_val (px_isT (T := "ValueError") E.i_ValueError (py_var 0) B.ValueError B.isinstance (by decide +kernel)))))))) (pd_one (pd_ret px_bl)) pd_nil)
  (pd_one (pd_ret (px_or (px_cmp d_lt (py_var 1) (py_of px_int) (nomark _)) (px_one (px_call (by exact G_holds_field) (by exact hr.mono (by decide)) (pr_cons (py_of (px_var 0)) (pr_cons (py_of (px_var 1)) (pr_cons (py_of (px_var 2)) (pr_cons (py_of (px_var 3)) (pr_cons (py_of (px_var 4)) pr_nil)))))))))))
abbrev s_law : Stmt := top 37
def y1_law : M D := (eOp ixD (oVar 2) (oVa (eOp addD (oVa (eCst (.int 1))) (oVar 10))))
def b2_law : M Fl := (sSeq (sSet 2 (eCall [false, false] den_digits (aCons (oVa (eCall [false, false] den_cell (aCons (oVa (eVar 0)) (aCons (oVa (eVar 1)) aNil)))) (aCons (oVa (nLst (aCons (oVa (eCst (.int 5))) (aCons (oVa (eCst (.int 400))) (aCons (oVa (eCst (.int 400))) (aCons (oVa (eCst (.int 400))) (aCons (oVa (eCst (.int 400))) (aCons (oVa (eCst (.int 23))) (aCons (oVa (eOp powD (oVa (eCst (.int 10))) (oVa (eCst (.int 9))))) aNil))))))))) aNil))))
  (sSeq (sSet 3 (eCall [false] den_text (aCons (oVa (eCall [false, false] den_cell (aCons (oVa (eVar 0)) (aCons (oVa (eOp addD (oVa (eCst (.int 24))) (oVar 1))) aNil)))) aNil)))
  (sSeq (sSet 4 (eOp subD (oVa (eOp modD (oVa (eBi intD (aCons (oVa (eCall [false, false] den_cell (aCons (oVa (eVar 0)) (aCons (oVa (eVar 1)) aNil)))) aNil))) (oVa (eOp powD (oVa (eCst (.int 10))) (oVa (eCst (.int 30))))))) (oVa (eOp ixD (oVar 2) (oVa (eCst (.int 6)))))))
  (sSeq (sSet 5 (eBi tupD (aCons (oVa (nLc (iRg1 (aCons (oVa (eOp ixD (oVar 2) (oVa (eCst (.int 0))))) aNil)) [10] (gN 10) bYes y1_law)) aNil)))
  (sSeq (sSet 6 (eOp modD (oVa (eBi intD (aCons (oVa (eOp addD (oVa (eOp addD (oVar 1) (oVa (eCst (.int 1))))) (oVa (eOp ixD (oVar 2) (oVa (eCst (.int 5))))))) aNil))) (oVa (eCst (.int 24)))))
  (sSeq (sSet 7 (eCall [false, false, false, false] den_error (aCons (oVa (eVar 1)) (aCons (oVa (eVar 3)) (aCons (oVa (eVar 4)) (aCons (oVa (eVar 5)) aNil))))))
  (sSeq (sSet 8 (eCall [false, false, false, false] den_error (aCons (oVa (eVar 1)) (aCons (oVa (eOp addD (oVar 3) (oVa (eCst (.str "'"))))) (aCons (oVa (eOp addD (oVar 4) (oVa (eCst (.int 1))))) (aCons (oVa (eOp addD (oVar 5) (oVa (eTup (aCons (oVa (eCst (.int 7))) aNil))))) aNil))))))
  (sSeq (sSet 9 (eCall [false, false, false, false] den_error (aCons (oVa (eVar 6)) (aCons (oVa (eOp addD (oVa (eCst (.str "x"))) (oVar 3))) (aCons (oVa (eOp subD (oVar 4) (oVa (eCst (.int 1))))) (aCons (oVa (eOp addD (oVa (eTup (aCons (oVa (eCst (.int 5))) aNil))) (oVar 5))) aNil))))))
  (sSeq (sIf (bNot (bE (eCall [false, false, false, false, false] den_is_error (aCons (oVa (eVar 7)) (aCons (oVa (eVar 1)) (aCons (oVa (eVar 3)) (aCons (oVa (eVar 4)) (aCons (oVa (eVar 5)) aNil)))))))) (sRet (eCst (.bl false))) sNil)
  (sSeq (sIf (bNot (bE (eCall [false, false, false, false, false] den_is_error (aCons (oVa (eVar 8)) (aCons (oVa (eVar 1)) (aCons (oVa (eOp addD (oVar 3) (oVa (eCst (.str "'"))))) (aCons (oVa (eOp addD (oVar 4) (oVa (eCst (.int 1))))) (aCons (oVa (eOp addD (oVar 5) (oVa (eTup (aCons (oVa (eCst (.int 7))) aNil))))) aNil)))))))) (sRet (eCst (.bl false))) sNil)
  (sIf (bNot (bE (eCall [false, false, false, false, false] den_is_error (aCons (oVa (eVar 9)) (aCons (oVa (eVar 6)) (aCons (oVa (eOp addD (oVa (eCst (.str "x"))) (oVar 3))) (aCons (oVa (eOp subD (oVar 4) (oVa (eCst (.int 1))))) (aCons (oVa (eOp addD (oVa (eTup (aCons (oVa (eCst (.int 5))) aNil))) (oVar 5))) aNil)))))))) (sRet (eCst (.bl false))) sNil)))))))))))
def ev_law : M Fl := (sSeq (sFor (iRg1 (aCons (oVa (eCst (.int 24))) aNil)) (gN 1) b2_law)
  (sRet (eCst (.bl true))))
def den_law : List D → DR := runD [false] 11 ev_law
theorem sc_law : FnScope ["_law_script", "_law_kind", "_law_digits_here", "_law_text_here", "_law_number", "_law_row", "_law_other", "_law_first", "_law_second", "_law_third", "_law_k"] ["_law_script"] (defScope s_law) := ⟨rfl, rfl, rfl, by decide +kernel, rfl, by decide +kernel, by decide +kernel⟩
set_option maxHeartbeats 8000000 in
theorem ok_law (T : TopFn K mg "law" s_law) (B : Bt mg) (G_is_error : ∀ base, DefOk P w K mg base 3 "_law_is_error" [false, false, false, false, false] den_is_error) (G_error : ∀ base, DefOk P w K mg base 4 "_law_error" [false, false, false, false] den_error) (G_cell : ∀ base, DefOk P w K mg base 1 "_law_cell" [false, false] den_cell) (G_text : ∀ base, DefOk P w K mg base 2 "_law_text" [false] den_text) (G_digits : ∀ base, DefOk P w K mg base 1 "_law_digits" [false, false] den_digits) : LawD P w K mg 5 "_law_script" den_law := by
  refine law_mk (N := ["_law_script", "_law_kind", "_law_digits_here", "_law_text_here", "_law_number", "_law_row", "_law_other", "_law_first", "_law_second", "_law_third", "_law_k"]) T sc_law (by decide) (fun _ _ _ _ _ _ us hl => match us, hl with | [_], _ => rfl) fun base f cdv A outer s H E0 hr => ?_
  have G_is_error := G_is_error base
  have G_error := G_error base
  have G_cell := G_cell base
  have G_text := G_text base
  have G_digits := G_digits base
  refine (pd_cons (pd_for rfl (pi_rg1 (pr_cons (py_of px_int) pr_nil) B.range) (pgd_name 1 sc_law.nd) (pd_cons (pd_set 2 sc_law.nd (px_call (by exact G_digits) (by exact hr.mono (by decide)) (pr_cons (py_of (px_call (by exact G_cell) (by exact hr.mono (by decide)) (pr_cons (py_of (px_var 0)) (pr_cons (py_of (px_var 1)) pr_nil)))) (pr_cons (py_of (px_new (pn_lst (pr_cons (py_of px_int) (pr_cons (py_of px_int) (pr_cons (py_of px_int) (pr_cons (py_of px_int) (pr_cons (py_of px_int) (pr_cons (py_of px_int) (pr_cons (py_of (px_op d_pow (py_of px_int) (py_of px_int))) pr_nil)))))))))) pr_nil))))
  (pd_cons (pd_set 3 sc_law.nd (px_call (by exact G_text) (by exact hr.mono (by decide)) (pr_cons (py_of (px_call (by exact G_cell) (by exact hr.mono (by decide)) (pr_cons (py_of (px_var 0)) (pr_cons (py_of (px_op d_add (py_of px_int) (py_var 1))) pr_nil)))) pr_nil)))
  (pd_cons (pd_set 4 sc_law.nd (px_op d_sub (py_of (px_op d_mod (py_of (px_ty d_int rfl B.int (by decide +kernel) (pr_cons (py_of (px_call (by exact G_cell) (by exact hr.mono (by decide)) (pr_cons (py_of (px_var 0)) (pr_cons (py_of (px_var 1)) pr_nil)))) pr_nil))) (py_of (px_op d_pow (py_of px_int) (py_of px_int))))) (py_of (px_ix d_ix (py_var 2) (py_of px_int)))))
  (pd_cons (pd_set 5 sc_law.nd (px_ty d_tup rfl B.tuple (by decide +kernel) (pr_cons (py_of (px_new ?c1)) pr_nil)))
  (pd_cons (pd_set 6 sc_law.nd (px_op d_mod (py_of (px_ty d_int rfl B.int (by decide +kernel) (pr_cons (py_of (px_op d_add (py_of (px_op d_add (py_var 1) (py_of px_int))) (py_of (px_ix d_ix (py_var 2) (py_of px_int))))) pr_nil))) (py_of px_int)))
  (pd_cons (pd_set 7 sc_law.nd (px_call (by exact G_error) (by exact hr.mono (by decide)) (pr_cons (py_of (px_var 1)) (pr_cons (py_of (px_var 3)) (pr_cons (py_of (px_var 4)) (pr_cons (py_of (px_var 5)) pr_nil))))))
  (pd_cons (pd_set 8 sc_law.nd (px_call (by exact G_error) (by exact hr.mono (by decide)) (pr_cons (py_of (px_var 1)) (pr_cons (py_of (px_op d_add (py_var 3) (py_of px_str))) (pr_cons (py_of (px_op d_add (py_var 4) (py_of px_int))) (pr_cons (py_of (px_op d_add (py_var 5) (py_of (px_tup (pr_cons (py_of px_int) pr_nil))))) pr_nil))))))
  (pd_cons (pd_set 9 sc_law.nd (px_call (by exact G_error) (by exact hr.mono (by decide)) (pr_cons (py_of (px_var 6)) (pr_cons (py_of (px_op d_add (py_of px_str) (py_var 3))) (pr_cons (py_of (px_op d_sub (py_var 4) (py_of px_int))) (pr_cons (py_of (px_op d_add (py_of (px_tup (pr_cons (py_of px_int) pr_nil))) (py_var 5))) pr_nil))))))
  (pd_cons (pd_if (pb_not (pb_val (px_call (by exact G_is_error) (by exact hr.mono (by decide)) (pr_cons (py_of (px_var 7)) (pr_cons (py_of (px_var 1)) (pr_cons (py_of (px_var 3)) (pr_cons (py_of (px_var 4)) (pr_cons (py_of (px_var 5)) pr_nil)))))))) (pd_one (pd_ret px_bl)) pd_nil)
  (pd_cons (pd_if (pb_not (pb_val (px_call (by exact G_is_error) (by exact hr.mono (by decide)) (pr_cons (py_of (px_var 8)) (pr_cons (py_of (px_var 1)) (pr_cons (py_of (px_op d_add (py_var 3) (py_of px_str))) (pr_cons (py_of (px_op d_add (py_var 4) (py_of px_int))) (pr_cons (py_of (px_op d_add (py_var 5) (py_of (px_tup (pr_cons (py_of px_int) pr_nil))))) pr_nil)))))))) (pd_one (pd_ret px_bl)) pd_nil)
  (pd_one (pd_if (pb_not (pb_val (px_call (by exact G_is_error) (by exact hr.mono (by decide)) (pr_cons (py_of (px_var 9)) (pr_cons (py_of (px_var 6)) (pr_cons (py_of (px_op d_add (py_of px_str) (py_var 3))) (pr_cons (py_of (px_op d_sub (py_var 4) (py_of px_int))) (pr_cons (py_of (px_op d_add (py_of (px_tup (pr_cons (py_of px_int) pr_nil))) (py_var 5))) pr_nil)))))))) (pd_one (pd_ret px_bl)) pd_nil)))))))))))))
  (pd_one (pd_ret px_bl)))
  case c1 => exact pn_lc (own := [("_law_k", 10)]) sc_law.nd rfl (pi_rg1 (pr_cons (py_of (px_ix d_ix (py_var 2) (py_of px_int))) pr_nil) B.range) (by exact blkOk_by (N := ["_law_script", "_law_kind", "_law_digits_here", "_law_text_here", "_law_number", "_law_row", "_law_other", "_law_first", "_law_second", "_law_third", "_law_k"]) (sc := defScope s_law) (by decide +kernel)) (fun _ _ _ _ _ => (pgd_name 10 sc_law.nd)) (fun _ _ _ _ _ => ptd_nil) (fun _ _ _ _ _ => (px_ix d_ix (py_var 2) (py_of (px_op d_add (py_of px_int) (py_var 10)))))
end K06
set_option Elab.async false
set_option linter.all false
set_option maxRecDepth 100000
set_option maxHeartbeats 2000000
namespace K06
open PySem PySem.Spec L2 DP
open PyProof.Rows hiding St
variable {P : Program} {w : World} {K : PySem.W.Frag} {mg : Str → Option Value} {base : Heap}
def ck0 : List Ck := [ckFree "ValueError", ckFree "bool", ckFree "int", ckFree "isinstance", ckFree "len", ckFree "range", ckFree "str", ckFree "tuple", xgB, ckGlo "_law_digits", ckGlo "_law_text", ckGlo "_law_filled", ckGlo "_law_plain", ckGlo "_law_error", ckGlo "_law_cell", ckGlo "_law_whole", ckGlo "_law_holds_field", ckGlo "_law_classes", ckGlo "_law_is_error", ckGlo "law", ckGlo "OnceError", ckGlo "BadWorld", ckX0 "BadWorld", ckGlo "NoSuchRelation", ckX1 "NoSuchRelation" "name"]
def ck1 : List Ck := [ckGlo "BadRow", ckX1 "BadRow" "row", ckGlo "BadOrder", ckX0 "BadOrder", ckGlo "BadQuestion", ckX0 "BadQuestion", ckGlo "BadText", ckX1 "BadText" "place", ckGlo "BadValues", ckX0 "BadValues", ckGlo "Unvalued", ckX1 "Unvalued" "variable", ckGlo "NotAWalk", ckX0 "NotAWalk", ckGlo "BadJudge", ckX0 "BadJudge", ckGlo "BadGiven", ckX0 "BadGiven", ckGlo "BadStanding", ckX0 "BadStanding", ckGlo "TooMany", ckX1 "TooMany" "limit", ckGlo "BadSide", ckX1 "BadSide" "side", ckGlo "NotRight"]
def ck2 : List Ck := [ckX0 "NotRight", ckGlo "TooLarge", ckX0 "TooLarge", ckGlo "TooLong", ckX1 "TooLong" "length", ckGlo "TakenName", ckX1 "TakenName" "name", ckGlo "UnknownWatch", ckX1 "UnknownWatch" "name", ckGlo "NothingToUndo", ckX0 "NothingToUndo", ckGlo "BadDeed", ckX0 "BadDeed", ckGlo "NoSuchWord", ckX1 "NoSuchWord" "word", ckGlo "BadNote", ckX1 "BadNote" "line", ckGlo "BadLetter", ckX1 "BadLetter" "letter", ckCls (fun K => .ref (He.ga K "BadDeed")) bt_BadDeed ow_BadDeed, ckCls (fun K => .ref (He.ga K "BadGiven")) bt_BadGiven ow_BadGiven, ckCls (fun K => .ref (He.ga K "BadJudge")) bt_BadJudge ow_BadJudge, ckCls (fun K => .ref (He.ga K "BadLetter")) bt_BadLetter ow_BadLetter, ckCls (fun K => .ref (He.ga K "BadNote")) bt_BadNote ow_BadNote, ckCls (fun K => .ref (He.ga K "BadOrder")) bt_BadOrder ow_BadOrder]
def ck3 : List Ck := [ckCls (fun K => .ref (He.ga K "BadQuestion")) bt_BadQuestion ow_BadQuestion, ckCls (fun K => .ref (He.ga K "BadRow")) bt_BadRow ow_BadRow, ckCls (fun K => .ref (He.ga K "BadSide")) bt_BadSide ow_BadSide, ckCls (fun K => .ref (He.ga K "BadStanding")) bt_BadStanding ow_BadStanding, ckCls (fun K => .ref (He.ga K "BadText")) bt_BadText ow_BadText, ckCls (fun K => .ref (He.ga K "BadValues")) bt_BadValues ow_BadValues, ckCls (fun K => .ref (He.ga K "BadWorld")) bt_BadWorld ow_BadWorld, ckCls (fun K => .ref (He.ga K "NoSuchRelation")) bt_NoSuchRelation ow_NoSuchRelation, ckCls (fun K => .ref (He.ga K "NoSuchWord")) bt_NoSuchWord ow_NoSuchWord, ckCls (fun K => .ref (He.ga K "NotAWalk")) bt_NotAWalk ow_NotAWalk, ckCls (fun K => .ref (He.ga K "NotRight")) bt_NotRight ow_NotRight, ckCls (fun K => .ref (He.ga K "NothingToUndo")) bt_NothingToUndo ow_NothingToUndo, ckCls (fun K => .ref (He.ga K "OnceError")) bt_OnceError ow_OnceError, ckCls (fun K => .ref (He.ga K "TakenName")) bt_TakenName ow_TakenName, ckCls (fun K => .ref (He.ga K "TooLarge")) bt_TooLarge ow_TooLarge, ckCls (fun K => .ref (He.ga K "TooLong")) bt_TooLong ow_TooLong, ckCls (fun K => .ref (He.ga K "TooMany")) bt_TooMany ow_TooMany, ckCls (fun K => .ref (He.ga K "UnknownWatch")) bt_UnknownWatch ow_UnknownWatch, ckCls (fun K => .ref (He.ga K "Unvalued")) bt_Unvalued ow_Unvalued, ckCls (fun _ => .type "ValueError") bt_ValueError ow_ValueError, ckCls (fun _ => .type "bool") bt_bool ow_bool, ckCls (fun _ => .type "int") bt_int ow_int, ckCls (fun _ => .type "str") bt_str ow_str, ckCls (fun _ => .type "tuple") bt_tuple ow_tuple, ckFld fc_name "name"]
def ck4 : List Ck := [ckFld fc_variable "variable", ckFld fc_side "side", ckFld fc_word "word", ckFld fc_row "row", ckFld fc_place "place", ckFld fc_limit "limit", ckFld fc_length "length", ckFld fc_line "line", ckFld fc_letter "letter"]
abbrev cks : List Ck := ck0 ++ ck1 ++ ck2 ++ ck3 ++ ck4
abbrev si_NoSuchRelation : Stmt := inClass (top 3) 0
abbrev si_BadRow : Stmt := inClass (top 4) 0
abbrev si_BadText : Stmt := inClass (top 7) 0
abbrev si_Unvalued : Stmt := inClass (top 9) 0
abbrev si_TooMany : Stmt := inClass (top 14) 0
abbrev si_BadSide : Stmt := inClass (top 15) 0
abbrev si_TooLong : Stmt := inClass (top 18) 0
abbrev si_TakenName : Stmt := inClass (top 19) 0
abbrev si_UnknownWatch : Stmt := inClass (top 20) 0
abbrev si_NoSuchWord : Stmt := inClass (top 23) 0
abbrev si_BadNote : Stmt := inClass (top 24) 0
abbrev si_BadLetter : Stmt := inClass (top 25) 0
def fn0 : List He.DefD := [dTop "_law_digits" (top 29), dTop "_law_text" (top 34), dTop "_law_filled" (top 31), dTop "_law_plain" (top 30), dTop "_law_error" (top 35), dTop "_law_cell" (top 28), dTop "_law_whole" (top 27), dTop "_law_holds_field" (top 33), dTop "_law_classes" (top 32), dTop "_law_is_error" (top 36), dTop "law" (top 37), dMeth "NoSuchRelation" "__init__" "NoSuchRelation.__init__" si_NoSuchRelation, dMeth "BadRow" "__init__" "BadRow.__init__" si_BadRow, dMeth "BadText" "__init__" "BadText.__init__" si_BadText, dMeth "Unvalued" "__init__" "Unvalued.__init__" si_Unvalued, dMeth "TooMany" "__init__" "TooMany.__init__" si_TooMany, dMeth "BadSide" "__init__" "BadSide.__init__" si_BadSide, dMeth "TooLong" "__init__" "TooLong.__init__" si_TooLong, dMeth "TakenName" "__init__" "TakenName.__init__" si_TakenName, dMeth "UnknownWatch" "__init__" "UnknownWatch.__init__" si_UnknownWatch, dMeth "NoSuchWord" "__init__" "NoSuchWord.__init__" si_NoSuchWord, dMeth "BadNote" "__init__" "BadNote.__init__" si_BadNote, dMeth "BadLetter" "__init__" "BadLetter.__init__" si_BadLetter]
abbrev fns : List He.DefD := fn0
def names0 : List PySem.Str := ["OnceError", "BadWorld", "NoSuchRelation", "BadRow", "BadOrder", "BadQuestion", "BadText", "BadValues", "Unvalued", "NotAWalk", "BadJudge", "BadGiven", "BadStanding", "TooMany", "BadSide", "NotRight", "TooLarge", "TooLong", "TakenName", "UnknownWatch", "NothingToUndo", "BadDeed", "NoSuchWord", "BadNote", "BadLetter", "_law_whole", "_law_cell", "_law_digits", "_law_plain", "_law_filled"]
def names1 : List PySem.Str := ["_law_classes", "_law_holds_field", "_law_text", "_law_error", "_law_is_error"]
abbrev names : List PySem.Str := names0 ++ names1
abbrev R : PySem.W.OpenRow := PySem.W.OpenLaw.row PySem.Challenge.rw_onceread_k06_error_classes
abbrev hk : PySem.W.Hook := hookE 5 cks fns
def ob (s : PySem.W.SharedT) : HkT := obsEG 5 cks fns (HandSHeadRun.getT s)
theorem ob_eq (s : PySem.W.SharedT) : ob s = hk.obs s.abs := obsEG_eq (HandSHeadRun.getT_eq s)
theorem run (w : World) : HandSHeadRun.RunEq R (PySem.W.view R.prog [37]) hk ob 12000 names w := by
  intro os
  kernel_rfl
section
variable {h : Heap} (X : K.In h) (G : h.Ns mainGlobals mg) (c : SaysE cks fns K)
include X G c
theorem bt_mk : Bt mg := ⟨He.free_ok X G (c.at 0), He.free_ok X G (c.at 1), He.free_ok X G (c.at 2), He.free_ok X G (c.at 3), He.free_ok X G (c.at 4), He.free_ok X G (c.at 5), He.free_ok X G (c.at 6), He.free_ok X G (c.at 7)⟩
theorem t_digits : TopFn K mg "_law_digits" (top 29) := by
  obtain ⟨fd, F⟩ := c.def_ 0 (d := dTop "_law_digits" (top 29)) rfl
  exact ⟨_, fd, He.glo_ok X G (c.at 9), fun_of F⟩
theorem t_text : TopFn K mg "_law_text" (top 34) := by
  obtain ⟨fd, F⟩ := c.def_ 1 (d := dTop "_law_text" (top 34)) rfl
  exact ⟨_, fd, He.glo_ok X G (c.at 10), fun_of F⟩
theorem t_filled : TopFn K mg "_law_filled" (top 31) := by
  obtain ⟨fd, F⟩ := c.def_ 2 (d := dTop "_law_filled" (top 31)) rfl
  exact ⟨_, fd, He.glo_ok X G (c.at 11), fun_of F⟩
theorem t_plain : TopFn K mg "_law_plain" (top 30) := by
  obtain ⟨fd, F⟩ := c.def_ 3 (d := dTop "_law_plain" (top 30)) rfl
  exact ⟨_, fd, He.glo_ok X G (c.at 12), fun_of F⟩
theorem t_error : TopFn K mg "_law_error" (top 35) := by
  obtain ⟨fd, F⟩ := c.def_ 4 (d := dTop "_law_error" (top 35)) rfl
  exact ⟨_, fd, He.glo_ok X G (c.at 13), fun_of F⟩
theorem t_cell : TopFn K mg "_law_cell" (top 28) := by
  obtain ⟨fd, F⟩ := c.def_ 5 (d := dTop "_law_cell" (top 28)) rfl
  exact ⟨_, fd, He.glo_ok X G (c.at 14), fun_of F⟩
theorem t_whole : TopFn K mg "_law_whole" (top 27) := by
  obtain ⟨fd, F⟩ := c.def_ 6 (d := dTop "_law_whole" (top 27)) rfl
  exact ⟨_, fd, He.glo_ok X G (c.at 15), fun_of F⟩
theorem t_holds_field : TopFn K mg "_law_holds_field" (top 33) := by
  obtain ⟨fd, F⟩ := c.def_ 7 (d := dTop "_law_holds_field" (top 33)) rfl
  exact ⟨_, fd, He.glo_ok X G (c.at 16), fun_of F⟩
theorem t_classes : TopFn K mg "_law_classes" (top 32) := by
  obtain ⟨fd, F⟩ := c.def_ 8 (d := dTop "_law_classes" (top 32)) rfl
  exact ⟨_, fd, He.glo_ok X G (c.at 17), fun_of F⟩
theorem t_is_error : TopFn K mg "_law_is_error" (top 36) := by
  obtain ⟨fd, F⟩ := c.def_ 9 (d := dTop "_law_is_error" (top 36)) rfl
  exact ⟨_, fd, He.glo_ok X G (c.at 18), fun_of F⟩
theorem t_law : TopFn K mg "law" (top 37) := by
  obtain ⟨fd, F⟩ := c.def_ 10 (d := dTop "law" (top 37)) rfl
  exact ⟨_, fd, He.glo_ok X G (c.at 19), fun_of F⟩
theorem x_BadWorld : Xc0 K mg "BadWorld" := x0_of X G (c.at 21) (c.at 22)
theorem x_NoSuchRelation : Xc1 P w K mg base "NoSuchRelation" "name" := by
  obtain ⟨fd, F⟩ := c.def_ 11 (d := dMeth "NoSuchRelation" "__init__" "NoSuchRelation.__init__" si_NoSuchRelation) rfl
  exact x1_of (st := si_NoSuchRelation) (q := "NoSuchRelation.__init__") (n := "name") X G (c.at 23) (c.at 24) F rfl ⟨rfl, rfl, rfl, by decide +kernel, rfl, by decide +kernel, by decide +kernel⟩ (.inl rfl) (.inl rfl) (by decide) (by decide) (fun _ => rfl) (fun _ _ _ _ _ _ us hl => match us, hl with | [_, _], _ => rfl)
theorem x_BadRow : Xc1 P w K mg base "BadRow" "row" := by
  obtain ⟨fd, F⟩ := c.def_ 12 (d := dMeth "BadRow" "__init__" "BadRow.__init__" si_BadRow) rfl
  exact x1_of (st := si_BadRow) (q := "BadRow.__init__") (n := "row") X G (c.at 25) (c.at 26) F rfl ⟨rfl, rfl, rfl, by decide +kernel, rfl, by decide +kernel, by decide +kernel⟩ (.inl rfl) (.inl rfl) (by decide) (by decide) (fun _ => rfl) (fun _ _ _ _ _ _ us hl => match us, hl with | [_, _], _ => rfl)
theorem x_BadOrder : Xc0 K mg "BadOrder" := x0_of X G (c.at 27) (c.at 28)
theorem x_BadQuestion : Xc0 K mg "BadQuestion" := x0_of X G (c.at 29) (c.at 30)
theorem x_BadText : Xc1 P w K mg base "BadText" "place" := by
  obtain ⟨fd, F⟩ := c.def_ 13 (d := dMeth "BadText" "__init__" "BadText.__init__" si_BadText) rfl
  exact x1_of (st := si_BadText) (q := "BadText.__init__") (n := "place") X G (c.at 31) (c.at 32) F rfl ⟨rfl, rfl, rfl, by decide +kernel, rfl, by decide +kernel, by decide +kernel⟩ (.inl rfl) (.inl rfl) (by decide) (by decide) (fun _ => rfl) (fun _ _ _ _ _ _ us hl => match us, hl with | [_, _], _ => rfl)
theorem x_BadValues : Xc0 K mg "BadValues" := x0_of X G (c.at 33) (c.at 34)
theorem x_Unvalued : Xc1 P w K mg base "Unvalued" "variable" := by
  obtain ⟨fd, F⟩ := c.def_ 14 (d := dMeth "Unvalued" "__init__" "Unvalued.__init__" si_Unvalued) rfl
  exact x1_of (st := si_Unvalued) (q := "Unvalued.__init__") (n := "variable") X G (c.at 35) (c.at 36) F rfl ⟨rfl, rfl, rfl, by decide +kernel, rfl, by decide +kernel, by decide +kernel⟩ (.inl rfl) (.inl rfl) (by decide) (by decide) (fun _ => rfl) (fun _ _ _ _ _ _ us hl => match us, hl with | [_, _], _ => rfl)
theorem x_NotAWalk : Xc0 K mg "NotAWalk" := x0_of X G (c.at 37) (c.at 38)
theorem x_BadJudge : Xc0 K mg "BadJudge" := x0_of X G (c.at 39) (c.at 40)
theorem x_BadGiven : Xc0 K mg "BadGiven" := x0_of X G (c.at 41) (c.at 42)
theorem x_BadStanding : Xc0 K mg "BadStanding" := x0_of X G (c.at 43) (c.at 44)
theorem x_TooMany : Xc1 P w K mg base "TooMany" "limit" := by
  obtain ⟨fd, F⟩ := c.def_ 15 (d := dMeth "TooMany" "__init__" "TooMany.__init__" si_TooMany) rfl
  exact x1_of (st := si_TooMany) (q := "TooMany.__init__") (n := "limit") X G (c.at 45) (c.at 46) F rfl ⟨rfl, rfl, rfl, by decide +kernel, rfl, by decide +kernel, by decide +kernel⟩ (.inl rfl) (.inl rfl) (by decide) (by decide) (fun _ => rfl) (fun _ _ _ _ _ _ us hl => match us, hl with | [_, _], _ => rfl)
theorem x_BadSide : Xc1 P w K mg base "BadSide" "side" := by
  obtain ⟨fd, F⟩ := c.def_ 16 (d := dMeth "BadSide" "__init__" "BadSide.__init__" si_BadSide) rfl
  exact x1_of (st := si_BadSide) (q := "BadSide.__init__") (n := "side") X G (c.at 47) (c.at 48) F rfl ⟨rfl, rfl, rfl, by decide +kernel, rfl, by decide +kernel, by decide +kernel⟩ (.inl rfl) (.inl rfl) (by decide) (by decide) (fun _ => rfl) (fun _ _ _ _ _ _ us hl => match us, hl with | [_, _], _ => rfl)
theorem x_NotRight : Xc0 K mg "NotRight" := x0_of X G (c.at 49) (c.at 50)
theorem x_TooLarge : Xc0 K mg "TooLarge" := x0_of X G (c.at 51) (c.at 52)
theorem x_TooLong : Xc1 P w K mg base "TooLong" "length" := by
  obtain ⟨fd, F⟩ := c.def_ 17 (d := dMeth "TooLong" "__init__" "TooLong.__init__" si_TooLong) rfl
  exact x1_of (st := si_TooLong) (q := "TooLong.__init__") (n := "length") X G (c.at 53) (c.at 54) F rfl ⟨rfl, rfl, rfl, by decide +kernel, rfl, by decide +kernel, by decide +kernel⟩ (.inl rfl) (.inl rfl) (by decide) (by decide) (fun _ => rfl) (fun _ _ _ _ _ _ us hl => match us, hl with | [_, _], _ => rfl)
theorem x_TakenName : Xc1 P w K mg base "TakenName" "name" := by
  obtain ⟨fd, F⟩ := c.def_ 18 (d := dMeth "TakenName" "__init__" "TakenName.__init__" si_TakenName) rfl
  exact x1_of (st := si_TakenName) (q := "TakenName.__init__") (n := "name") X G (c.at 55) (c.at 56) F rfl ⟨rfl, rfl, rfl, by decide +kernel, rfl, by decide +kernel, by decide +kernel⟩ (.inl rfl) (.inl rfl) (by decide) (by decide) (fun _ => rfl) (fun _ _ _ _ _ _ us hl => match us, hl with | [_, _], _ => rfl)
theorem x_UnknownWatch : Xc1 P w K mg base "UnknownWatch" "name" := by
  obtain ⟨fd, F⟩ := c.def_ 19 (d := dMeth "UnknownWatch" "__init__" "UnknownWatch.__init__" si_UnknownWatch) rfl
  exact x1_of (st := si_UnknownWatch) (q := "UnknownWatch.__init__") (n := "name") X G (c.at 57) (c.at 58) F rfl ⟨rfl, rfl, rfl, by decide +kernel, rfl, by decide +kernel, by decide +kernel⟩ (.inl rfl) (.inl rfl) (by decide) (by decide) (fun _ => rfl) (fun _ _ _ _ _ _ us hl => match us, hl with | [_, _], _ => rfl)
theorem x_NothingToUndo : Xc0 K mg "NothingToUndo" := x0_of X G (c.at 59) (c.at 60)
theorem x_BadDeed : Xc0 K mg "BadDeed" := x0_of X G (c.at 61) (c.at 62)
theorem x_NoSuchWord : Xc1 P w K mg base "NoSuchWord" "word" := by
  obtain ⟨fd, F⟩ := c.def_ 20 (d := dMeth "NoSuchWord" "__init__" "NoSuchWord.__init__" si_NoSuchWord) rfl
  exact x1_of (st := si_NoSuchWord) (q := "NoSuchWord.__init__") (n := "word") X G (c.at 63) (c.at 64) F rfl ⟨rfl, rfl, rfl, by decide +kernel, rfl, by decide +kernel, by decide +kernel⟩ (.inl rfl) (.inl rfl) (by decide) (by decide) (fun _ => rfl) (fun _ _ _ _ _ _ us hl => match us, hl with | [_, _], _ => rfl)
theorem x_BadNote : Xc1 P w K mg base "BadNote" "line" := by
  obtain ⟨fd, F⟩ := c.def_ 21 (d := dMeth "BadNote" "__init__" "BadNote.__init__" si_BadNote) rfl
  exact x1_of (st := si_BadNote) (q := "BadNote.__init__") (n := "line") X G (c.at 65) (c.at 66) F rfl ⟨rfl, rfl, rfl, by decide +kernel, rfl, by decide +kernel, by decide +kernel⟩ (.inl rfl) (.inl rfl) (by decide) (by decide) (fun _ => rfl) (fun _ _ _ _ _ _ us hl => match us, hl with | [_, _], _ => rfl)
theorem x_BadLetter : Xc1 P w K mg base "BadLetter" "letter" := by
  obtain ⟨fd, F⟩ := c.def_ 22 (d := dMeth "BadLetter" "__init__" "BadLetter.__init__" si_BadLetter) rfl
  exact x1_of (st := si_BadLetter) (q := "BadLetter.__init__") (n := "letter") X G (c.at 67) (c.at 68) F rfl ⟨rfl, rfl, rfl, by decide +kernel, rfl, by decide +kernel, by decide +kernel⟩ (.inl rfl) (.inl rfl) (by decide) (by decide) (fun _ => rfl) (fun _ _ _ _ _ _ us hl => match us, hl with | [_, _], _ => rfl)
theorem ex_mk : Ex P w K mg base := ⟨x_BadWorld X G c, x_NoSuchRelation X G c, x_BadRow X G c, x_BadOrder X G c, x_BadQuestion X G c, x_BadText X G c, x_BadValues X G c, x_Unvalued X G c, x_NotAWalk X G c, x_BadJudge X G c, x_BadGiven X G c, x_BadStanding X G c, x_TooMany X G c, x_BadSide X G c, x_NotRight X G c, x_TooLarge X G c, x_TooLong X G c, x_TakenName X G c, x_UnknownWatch X G c, x_NothingToUndo X G c, x_BadDeed X G c, x_NoSuchWord X G c, x_BadNote X G c, x_BadLetter X G c, ⟨_, He.glo_ok X G (c.at 61), clsOk_of (u := fun K => .ref (He.ga K "BadDeed")) X G (c.at 8) (c.at 69)⟩, ⟨_, He.glo_ok X G (c.at 41), clsOk_of (u := fun K => .ref (He.ga K "BadGiven")) X G (c.at 8) (c.at 70)⟩, ⟨_, He.glo_ok X G (c.at 39), clsOk_of (u := fun K => .ref (He.ga K "BadJudge")) X G (c.at 8) (c.at 71)⟩, ⟨_, He.glo_ok X G (c.at 67), clsOk_of (u := fun K => .ref (He.ga K "BadLetter")) X G (c.at 8) (c.at 72)⟩, ⟨_, He.glo_ok X G (c.at 65), clsOk_of (u := fun K => .ref (He.ga K "BadNote")) X G (c.at 8) (c.at 73)⟩, ⟨_, He.glo_ok X G (c.at 27), clsOk_of (u := fun K => .ref (He.ga K "BadOrder")) X G (c.at 8) (c.at 74)⟩, ⟨_, He.glo_ok X G (c.at 29), clsOk_of (u := fun K => .ref (He.ga K "BadQuestion")) X G (c.at 8) (c.at 75)⟩, ⟨_, He.glo_ok X G (c.at 25), clsOk_of (u := fun K => .ref (He.ga K "BadRow")) X G (c.at 8) (c.at 76)⟩, ⟨_, He.glo_ok X G (c.at 47), clsOk_of (u := fun K => .ref (He.ga K "BadSide")) X G (c.at 8) (c.at 77)⟩, ⟨_, He.glo_ok X G (c.at 43), clsOk_of (u := fun K => .ref (He.ga K "BadStanding")) X G (c.at 8) (c.at 78)⟩, ⟨_, He.glo_ok X G (c.at 31), clsOk_of (u := fun K => .ref (He.ga K "BadText")) X G (c.at 8) (c.at 79)⟩, ⟨_, He.glo_ok X G (c.at 33), clsOk_of (u := fun K => .ref (He.ga K "BadValues")) X G (c.at 8) (c.at 80)⟩, ⟨_, He.glo_ok X G (c.at 21), clsOk_of (u := fun K => .ref (He.ga K "BadWorld")) X G (c.at 8) (c.at 81)⟩, ⟨_, He.glo_ok X G (c.at 23), clsOk_of (u := fun K => .ref (He.ga K "NoSuchRelation")) X G (c.at 8) (c.at 82)⟩, ⟨_, He.glo_ok X G (c.at 63), clsOk_of (u := fun K => .ref (He.ga K "NoSuchWord")) X G (c.at 8) (c.at 83)⟩, ⟨_, He.glo_ok X G (c.at 37), clsOk_of (u := fun K => .ref (He.ga K "NotAWalk")) X G (c.at 8) (c.at 84)⟩, ⟨_, He.glo_ok X G (c.at 49), clsOk_of (u := fun K => .ref (He.ga K "NotRight")) X G (c.at 8) (c.at 85)⟩, ⟨_, He.glo_ok X G (c.at 59), clsOk_of (u := fun K => .ref (He.ga K "NothingToUndo")) X G (c.at 8) (c.at 86)⟩, ⟨_, He.glo_ok X G (c.at 20), clsOk_of (u := fun K => .ref (He.ga K "OnceError")) X G (c.at 8) (c.at 87)⟩, ⟨_, He.glo_ok X G (c.at 55), clsOk_of (u := fun K => .ref (He.ga K "TakenName")) X G (c.at 8) (c.at 88)⟩, ⟨_, He.glo_ok X G (c.at 51), clsOk_of (u := fun K => .ref (He.ga K "TooLarge")) X G (c.at 8) (c.at 89)⟩, ⟨_, He.glo_ok X G (c.at 53), clsOk_of (u := fun K => .ref (He.ga K "TooLong")) X G (c.at 8) (c.at 90)⟩, ⟨_, He.glo_ok X G (c.at 45), clsOk_of (u := fun K => .ref (He.ga K "TooMany")) X G (c.at 8) (c.at 91)⟩, ⟨_, He.glo_ok X G (c.at 57), clsOk_of (u := fun K => .ref (He.ga K "UnknownWatch")) X G (c.at 8) (c.at 92)⟩, ⟨_, He.glo_ok X G (c.at 35), clsOk_of (u := fun K => .ref (He.ga K "Unvalued")) X G (c.at 8) (c.at 93)⟩, clsOk_of (u := fun _ => .type "ValueError") X G (c.at 8) (c.at 94), clsOk_of (u := fun _ => .type "bool") X G (c.at 8) (c.at 95), clsOk_of (u := fun _ => .type "int") X G (c.at 8) (c.at 96), clsOk_of (u := fun _ => .type "str") X G (c.at 8) (c.at 97), clsOk_of (u := fun _ => .type "tuple") X G (c.at 8) (c.at 98), fld_of X G (c.at 99), fld_of X G (c.at 100), fld_of X G (c.at 101), fld_of X G (c.at 102), fld_of X G (c.at 103), fld_of X G (c.at 104), fld_of X G (c.at 105), fld_of X G (c.at 106), fld_of X G (c.at 107), fld_of X G (c.at 108)⟩
end
theorem ok_all {h : Heap} (X : K.In h) (G : h.Ns mainGlobals mg) (c : SaysE cks fns K) : LawD P w K mg 5 "_law_script" den_law := by
  have B : Bt mg := bt_mk X G c
  have E : ∀ base, Ex P w K mg base := fun _ => ex_mk X G c
  have G_digits := fun base => ok_digits (P := P) (w := w) (base := base) (t_digits X G c) B
  have G_text := fun base => ok_text (P := P) (w := w) (base := base) (t_text X G c) B (G_digits base)
  have G_filled := fun base => ok_filled (P := P) (w := w) (base := base) (t_filled X G c) B (E base)
  have G_plain := fun base => ok_plain (P := P) (w := w) (base := base) (t_plain X G c) B (E base)
  have G_error := fun base => ok_error (P := P) (w := w) (base := base) (t_error X G c) B (G_filled base) (G_plain base)
  have G_cell := fun base => ok_cell (P := P) (w := w) (base := base) (t_cell X G c) B
  have G_whole := fun base => ok_whole (P := P) (w := w) (base := base) (t_whole X G c) B (E base)
  have G_holds_field := fun base => ok_holds_field (P := P) (w := w) (base := base) (t_holds_field X G c) B (E base) (G_whole base)
  have G_classes := fun base => ok_classes (P := P) (w := w) (base := base) (t_classes X G c) B (E base)
  have G_is_error := fun base => ok_is_error (P := P) (w := w) (base := base) (t_is_error X G c) B (E base) (G_holds_field base) (G_classes base)
  exact ok_law (t_law X G c) B G_is_error G_error G_cell G_text G_digits
end K06
set_option Elab.async false
set_option linter.all false
set_option maxRecDepth 100000
set_option maxHeartbeats 4000000
/-! MA: the plain law, common parts. -/
namespace K06m
open PySem PySem.Spec DP
open K06 hiding R

theorem rb_ok {α β : Type} {a : α} {e : En} {f : α → M β} : (DP.R.ok a e).bind f = f a e := rfl
theorem bind_ok {α β : Type} {r : R α} {a : α} {e : En} {f : α → M β} (h : r = .ok a e) : r.bind f = f a e := by rw [h]

theorem addD_int (i j : Int) : addD (.int i) (.int j) = some (.int (i + j)) := rfl
theorem subD_int (i j : Int) : subD (.int i) (.int j) = some (.int (i - j)) := rfl
theorem mulI_r {i j : Int} (h : decide (j.natAbs < 18446744073709551616) = true) : mulI (.int i) (.int j) = some (.int (i * j)) := by
  unfold mulI DP.opI
  simp only [h, Bool.or_true, if_true]
theorem mulI_l {i j : Int} (h : decide (i.natAbs < 18446744073709551616) = true) : mulI (.int i) (.int j) = some (.int (i * j)) := by
  unfold mulI DP.opI
  simp only [h, Bool.true_or, if_true]
theorem modD_ok {i j : Int} (h : decide (0 < j) = true) : modD (.int i) (.int j) = some (.int (i % j)) := by
  unfold modD DP.opI
  simp only [h, if_true]
theorem divD_ok {i j : Int} (h : (decide (0 < j) && decide (j.natAbs < 1073741824)) = true) : divD (.int i) (.int j) = some (.int (i / j)) := by
  unfold divD DP.opI
  simp only [h, if_true]
theorem ixL_ok {ds : List D} {k : Nat} {d : D} (h : ds[k]? = some d) : ixD (.lst ds) (.int (k : Int)) = some d := by
  exact L2.atI_nat h
section
variable {e : En} {i : Nat} {d : D}
theorem run_set {m : M D} {e1 : En} (h : m e = .ok d e1) (hf : free e1 i = true) : sSet i m e = .ok .nx (e1.set i (.fz d)) := by
  unfold sSet
  rw [h]
  exact if_pos hf
theorem run_seq {m n : M Fl} {e1 : En} (h : m e = .ok .nx e1) : sSeq m n e = n e1 := by
  unfold sSeq
  rw [h]
theorem run_rt {m n : M Fl} {e1 : En} (h : m e = .ok (.rt d) e1) : sSeq m n e = .ok (.rt d) e1 := by
  unfold sSeq
  rw [h]
theorem run_ret {m : M D} {e1 : En} (h : m e = .ok d e1) : sRet m e = .ok (.rt d) e1 := by
  unfold sRet
  rw [h]
theorem run_ift {t : M Bool} {m n : M Fl} {e1 : En} {r : R Fl} (h : t e = .ok true e1) (h2 : m e1 = r) : sIf t m n e = r := by
  unfold sIf
  rw [h, ← h2]
  rfl
theorem run_iff {t : M Bool} {m n : M Fl} {e1 : En} {r : R Fl} (h : t e = .ok false e1) (h2 : n e1 = r) : sIf t m n e = r := by
  unfold sIf
  rw [h, ← h2]
  rfl
theorem run_andt {m n : M D} {e1 : En} {r : R D} (h : m e = .ok (.bl true) e1) (h2 : n e1 = r) : eAnd m n e = r := by
  unfold eAnd
  rw [h, ← h2]
theorem run_orf {m n : M D} {e1 : En} {r : R D} (h : m e = .ok (.bl false) e1) (h2 : n e1 = r) : eOr m n e = r := by
  unfold eOr
  rw [h, ← h2]
theorem run_op {f : D → D → Option D} {ma mb : M Op} {x y : Op} {a b : D} {e1 e2 : En} (h1 : ma e = .ok x e1) (h2 : mb e1 = .ok y e2) (h3 : look e2 x = some a) (h4 : look e2 y = some b) (h5 : f a b = some d) : eOp f ma mb e = .ok d e2 := by
  unfold eOp
  simp only [h1, h2, h3, h4, h5, R.bind]
theorem run_call {pm : List Bool} {den : List D → DR} {m : M (List Op)} {os : List Op} {ds ms : List D} {e1 : En} (h1 : m e = .ok os e1) (h2 : argsOf e1 pm os = some ds) (h3 : (mIx pm os).Nodup) (h4 : den ds = .ok d ms) : eCall pm den m e = .ok d (wback pm os ms e1) := by
  unfold eCall
  simp only [h1, h2, h3, h4, if_true, R.bind]
end
theorem step (z rest seed : Int) (sz acc : List Int) (s4 s6 s7 : Sl) (k : Nat) (s : Int) (h7 : s7 = .no ∨ ∃ d, s7 = .fz d) (hs : 0 ≤ seed ∧ seed < 2147483647) (hz : sz[k]? = some s) (hp : 0 < s) (hk : k < 1000) (ha : acc.length < 1000) :
    ∃ seed' d, (0 ≤ seed' ∧ seed' < 2147483647) ∧ (0 ≤ d ∧ d < s) ∧ ∃ t, b1_digits [.fz (.int z), .fz (.lst (sz.map .int)), .ow false (.lst (acc.map .int)), .fz (.int rest), s4, .fz (.int seed), .fz (.int k), s7] =
      .ok .nx [.fz (.int z), .fz (.lst (sz.map .int)), .ow false (.lst ((acc ++ [d]).map .int)), .fz (.int rest), s4, .fz (.int seed'), .fz (.int k), .fz t] := by
  have hix : ixD (.lst (sz.map .int)) (.int k) = some (.int s) := ixL_ok (by rw [List.getElem?_map, hz]; rfl)
  have f7 : ∀ a b c d e f g, free [a, b, c, d, e, f, g, s7] 7 = true := by
    intro a b c d e f g
    rcases h7 with rfl | ⟨_, rfl⟩ <;> rfl
  have hseed : 0 ≤ (seed * 48271 + 974711 * (k : Int) + 12345) % 2147483647 ∧ (seed * 48271 + 974711 * (k : Int) + 12345) % 2147483647 < 2147483647 := ⟨Int.emod_nonneg _ (by decide), Int.emod_lt_of_pos _ (by decide)⟩
  generalize hS : (seed * 48271 + 974711 * (k : Int) + 12345) % 2147483647 = S at hseed
  refine ⟨S, (S * (S / 65537 + 3) % 2147483629) / 19 % s, hseed, ⟨Int.emod_nonneg _ (by omega), Int.emod_lt_of_pos _ hp⟩, .int (S * (S / 65537 + 3) % 2147483629), ?_⟩
  have m1 : decide (seed.natAbs < 18446744073709551616) = true := by rw [decide_eq_true_eq]; omega
  have m2 : decide ((974711 : Int).natAbs < 18446744073709551616) = true := by decide
  have m3 : decide (S.natAbs < 18446744073709551616) = true := by rw [decide_eq_true_eq]; omega
  have q2 : (decide (0 < s)) = true := by simpa using hp
  unfold b1_digits
  refine (run_seq (run_set (d := .int S) (e1 := [.fz (.int z), .fz (.lst (sz.map .int)), .ow false (.lst (acc.map .int)), .fz (.int rest), s4, .fz (.int seed), .fz (.int k), s7]) ?_ rfl)).trans ?_
  · simp [eOp, oVa, eBi, aCons, aNil, oVar, eCst, R.bind, look, looks, intD, addD_int, mulI_l m1, mulI_l m2, modD_ok, hS]
  refine (run_seq (run_set (d := .int (S * (S / 65537 + 3) % 2147483629)) (e1 := [.fz (.int z), .fz (.lst (sz.map .int)), .ow false (.lst (acc.map .int)), .fz (.int rest), s4, .fz (.int S), .fz (.int k), s7]) ?_ (f7 _ _ _ _ _ _ _))).trans ?_
  · simp [eOp, oVa, eBi, aCons, aNil, oVar, eCst, R.bind, look, looks, intD, addD_int, mulI_l m3, modD_ok, divD_ok]
  · have hl : (acc.map D.int).length < sizeLine := by rw [List.length_map, sizeLine_eq]; omega
    simp [sApp, isLst, eOp, oVa, eBi, aCons, aNil, oVar, eCst, R.bind, look, looks, intD, addD_int, mulI_l m3, modD_ok, divD_ok, hix, modD_ok q2]
    simpa using hl

/-- every digit lies below its size -/
def Dg : List Int → List Int → Prop
  | [], [] => True
  | d :: ds, s :: ss => (0 ≤ d ∧ d < s) ∧ Dg ds ss
  | _, _ => False
theorem Dg.len : ∀ {ds ss : List Int}, Dg ds ss → ds.length = ss.length
  | [], [], _ => rfl
  | _ :: _, _ :: _, h => congrArg Nat.succ (Dg.len h.2)
theorem Dg.get {ds ss : List Int} {k : Nat} {s : Int} (h : Dg ds ss) (hs : ss[k]? = some s) : ∃ d, ds[k]? = some d ∧ 0 ≤ d ∧ d < s := by
  induction ds generalizing ss k with
  | nil =>
    cases ss with
    | nil => cases hs
    | cons _ _ => exact h.elim
  | cons d ds ih =>
    cases ss with
    | nil => exact h.elim
    | cons s' ss =>
      cases k with
      | zero =>
        have e : s' = s := Option.some.inj hs
        exact ⟨d, rfl, e ▸ h.1⟩
      | succ k => exact ih h.2 hs
theorem Dg.snoc : ∀ {ds ss : List Int} {d s : Int}, Dg ds ss → (0 ≤ d ∧ d < s) → Dg (ds ++ [d]) (ss ++ [s])
  | [], [], _, _, _, h => ⟨h, trivial⟩
  | _ :: _, _ :: _, _, _, h, q => ⟨h.1, Dg.snoc h.2 q⟩
theorem forL_cons {st : D → En → Option En} {body : M Fl} {d : D} {ds : List D} {e e1 e2 : En} (h1 : st d e = some e1) (h2 : body e1 = .ok .nx e2) : forL st body (d :: ds) e = forL st body ds e2 := by
  rw [forL]
  simp only [h1, h2]
theorem gN_ok {i : Nat} {d : D} {e : En} (h : free e i = true) : gN i d e = some (e.set i (.fz d)) := if_pos h
theorem loop (z rest : Int) (sz : List Int) (s4 : Sl) (hp : ∀ s ∈ sz, 0 < s) (hl : sz.length < 1000) : ∀ (m k : Nat) (acc : List Int) (seed : Int) (s6 s7 : Sl), k + m = sz.length → Dg acc (sz.take k) → (0 ≤ seed ∧ seed < 2147483647) →
    (s6 = .no ∨ ∃ d, s6 = .fz d) → (s7 = .no ∨ ∃ d, s7 = .fz d) → ∃ out seed' s6' s7', Dg out sz ∧ (s6' = .no ∨ ∃ d, s6' = .fz d) ∧ (s7' = .no ∨ ∃ d, s7' = .fz d) ∧
      forL (gN 6) b1_digits ((List.range' k m).map fun i : Nat => D.int (i : Int)) [.fz (.int z), .fz (.lst (sz.map .int)), .ow false (.lst (acc.map .int)), .fz (.int rest), s4, .fz (.int seed), s6, s7] =
      .ok .nx [.fz (.int z), .fz (.lst (sz.map .int)), .ow false (.lst (out.map .int)), .fz (.int rest), s4, .fz (.int seed'), s6', s7']
  | 0, k, acc, seed, s6, s7, hk, ha, hs, h6, h7 => by
    have e : sz.take k = sz := List.take_of_length_le (by omega)
    rw [e] at ha
    exact ⟨acc, seed, s6, s7, ha, h6, h7, rfl⟩
  | m + 1, k, acc, seed, s6, s7, hk, ha, hs, h6, h7 => by
    have hk' : k < sz.length := by omega
    have hz : sz[k]? = some sz[k] := List.getElem?_eq_getElem hk'
    have hlen : acc.length = k := by rw [ha.len, List.length_take]; omega
    obtain ⟨seed', d, q1, q2, t, q3⟩ := step z rest seed sz acc s4 s6 s7 k sz[k] h7 hs hz (hp _ (List.getElem_mem hk')) (by omega) (by omega)
    have ha' : Dg (acc ++ [d]) (sz.take (k + 1)) := by
      rw [List.take_add_one, hz]
      exact ha.snoc q2
    obtain ⟨out, seed2, s6', s7', r1, r2, r3, r4⟩ := loop z rest sz s4 hp hl m (k + 1) (acc ++ [d]) seed' (.fz (.int k)) (.fz t) (by omega) ha' q1 (.inr ⟨_, rfl⟩) (.inr ⟨_, rfl⟩)
    refine ⟨out, seed2, s6', s7', r1, r2, r3, ?_⟩
    rw [List.range'_succ, List.map_cons, ← r4]
    have f6 : free [.fz (.int z), .fz (.lst (sz.map .int)), .ow false (.lst (acc.map .int)), .fz (.int rest), s4, .fz (.int seed), s6, s7] 6 = true := by rcases h6 with rfl | ⟨_, rfl⟩ <;> rfl
    exact forL_cons (gN_ok f6) q3
theorem rngs_nat (n : Nat) : rngs 0 (n : Int) = (List.range' 0 n).map fun i => .int (i : Int) := by
  unfold rngs
  rw [List.range_eq_range']
  simp
theorem loopq (z : Int) (s5 s6 s7 : Sl) (sz : List Int) (hl : sz.length < 1000) : ∀ (todo done acc : List Int) (rest : Int) (s4 : Sl), done ++ todo = sz → (∀ s ∈ todo, 0 < s ∧ s < 1073741824) → Dg acc done → (s4 = .no ∨ ∃ d, s4 = .fz d) →
    ∃ out rest' s4', Dg out sz ∧ forL (gN 4) b2_digits (todo.map .int) [.fz (.int z), .fz (.lst (sz.map .int)), .ow false (.lst (acc.map .int)), .fz (.int rest), s4, s5, s6, s7] =
      .ok .nx [.fz (.int z), .fz (.lst (sz.map .int)), .ow false (.lst (out.map .int)), .fz (.int rest'), s4', s5, s6, s7]
  | [], done, acc, rest, s4, hd, _, ha, _ => by
    rw [List.append_nil] at hd
    exact ⟨acc, rest, s4, hd ▸ ha, rfl⟩
  | s :: todo, done, acc, rest, s4, hd, hp, ha, h4 => by
    have hs := hp s List.mem_cons_self
    obtain ⟨out, rest', s4', r1, r2⟩ := loopq z s5 s6 s7 sz hl todo (done ++ [s]) (acc ++ [rest % s]) (rest / s) (.fz (.int s)) (by rw [← hd]; simp) (fun x hx => hp x (List.mem_cons_of_mem _ hx)) (ha.snoc ⟨Int.emod_nonneg _ (by omega), Int.emod_lt_of_pos _ hs.1⟩) (.inr ⟨_, rfl⟩)
    refine ⟨out, rest', s4', r1, ?_⟩
    rw [List.map_cons, ← r2]
    have f4 : free [.fz (.int z), .fz (.lst (sz.map .int)), .ow false (.lst (acc.map .int)), .fz (.int rest), s4, s5, s6, s7] 4 = true := by rcases h4 with rfl | ⟨_, rfl⟩ <;> rfl
    refine forL_cons (gN_ok f4) ?_
    have q2 : decide (0 < s) = true := by simpa using hs.1
    have q3 : (decide (0 < s) && decide (s.natAbs < 1073741824)) = true := by simp only [Bool.and_eq_true, decide_eq_true_eq]; omega
    have hla : acc.length < sizeLine := by
      have := ha.len
      have h2 : done.length ≤ sz.length := by rw [← hd]; simp
      rw [sizeLine_eq]; omega
    unfold b2_digits
    simp [sSeq, sSet, free, sApp, isLst, eOp, oVa, eBi, aCons, aNil, oVar, eCst, R.bind, look, looks, intD, modD_ok q2, divD_ok q3, hla]
theorem runD_ok {pm : List Bool} {n : Nat} {m : M Fl} {ds : List D} {d : D} {e : En} {ms : List D} (hl : ds.length = pm.length) (h : m (initE pm n ds) = .ok (.rt d) e) (hm : muts pm e = some ms) : runD pm n m ds = .ok d ms := by
  unfold runD
  rw [if_pos hl, h]
  show (match muts pm e with
    | some ms => DR.ok d ms
    | none => .bad) = _
  rw [hm]
theorem sFor_eq (m : M (List D)) (st : D → En → Option En) (body : M Fl) (e : En) : sFor m st body e = (m e).bind fun ds e => forL st body ds e := rfl
theorem pow18 : powD (.int 10) (.int 18) = some (.int 1000000000000000000) := by
  rfl
def rg1 : List Op → M (List D) := fun os e => match os with
  | [.va (.int j)] => if small j = true then .ok (rngs 0 j) e else .bad
  | _ => .bad
theorem iRg1_eq (m : M (List Op)) (e : En) : iRg1 m e = (m e).bind rg1 := rfl
theorem rg1_ok {j : Int} {e : En} (h : small j = true) : rg1 [.va (.int j)] e = .ok (rngs 0 j) e := if_pos h
theorem hsmall {n : Nat} (h : n < 1000) : small (n : Int) = true := by
  unfold small
  rw [decide_eq_true_eq]
  omega
theorem dd1 (z : Int) (sz : List Int) (hp : ∀ s ∈ sz, 0 < s ∧ s < 1073741824) (hl : sz.length < 1000) (hz : (1000000000000000000 : Int) ≤ z) : ∃ out, Dg out sz ∧ den_digits [.int z, .lst (sz.map .int)] = .ok (.lst (out.map .int)) [] := by
  have hge : geD (.int z) (.int 1000000000000000000) = some (.bl true) := by
    show some (D.bl (decide ((1000000000000000000 : Int) ≤ z))) = _
    rw [decide_eq_true hz]
  obtain ⟨out, rest', s4', r1, r2⟩ := loopq z .no .no .no sz hl sz [] [] (z - 1000000000000000000) .no rfl hp trivial (.inl rfl)
  refine ⟨out, r1, runD_ok rfl (e := [.fz (.int z), .fz (.lst (sz.map .int)), .fz (.lst (out.map .int)), .fz (.int rest'), s4', .no, .no, .no]) ?_ rfl⟩
  simp only [List.map_nil] at r2
  simp [ev_digits, initE, slotOf, sSeq, sNew, nLst, aNil, vas, free, sSet, eBi, aCons, oVar, oVa, looks, look, intD, R.bind, sIf, bE, eOp, eCst, pow18, hge, subD_int, sFor_eq, iD, eVar, itD, r2, frz, sFrz, sRet]
theorem iLen_ok {E0 : En} {l : List D} {i : Nat} (h1 : E0[i]? = some (.fz (.lst l))) (hsm : small (l.length : Int) = true) : iRg1 (aCons (oVa (eBi lenD (aCons (oVar i) aNil))) aNil) E0 = .ok (rngs 0 l.length) E0 := by
  have q : (aCons (oVa (eBi lenD (aCons (oVar i) aNil))) aNil) E0 = .ok [.va (.int l.length)] E0 := by
    simp [eBi, aCons, aNil, oVar, oVa, looks, look, lenD, R.bind, h1]
  rw [iRg1_eq, q]
  exact rg1_ok hsm
theorem for_ok {m : M (List D)} {st : D → En → Option En} {body : M Fl} {e e1 : En} {ds : List D} {r : R Fl} (h : m e = .ok ds e1) (h2 : forL st body ds e1 = r) : sFor m st body e = r := by
  rw [sFor_eq, h]
  exact h2
theorem hd_ (z : Int) : 0 ≤ z % 2147483629 ∧ z % 2147483629 < 2147483647 := ⟨Int.emod_nonneg _ (by decide), by have := Int.emod_lt_of_pos z (by decide : (0 : Int) < 2147483629); omega⟩
theorem ll_ (z : Int) (sz : List Int) (hp : ∀ s ∈ sz, 0 < s ∧ s < 1073741824) (hl : sz.length < 1000) (seed : Int) (hd : 0 ≤ seed ∧ seed < 2147483647) : ∃ out seed' s6' s7', Dg out sz ∧ forL (gN 6) b1_digits (rngs 0 sz.length) [.fz (.int z), .fz (.lst (sz.map .int)), .ow false (.lst []), .fz (.int z), .no, .fz (.int seed), .no, .no] =
      .ok .nx [.fz (.int z), .fz (.lst (sz.map .int)), .ow false (.lst (out.map .int)), .fz (.int z), .no, .fz (.int seed'), s6', s7'] := by
  obtain ⟨out, seed', s6', s7', r1, _, _, r2⟩ := loop z z sz .no (fun s h => (hp s h).1) hl sz.length 0 [] seed .no .no (by omega) trivial hd (.inl rfl) (.inl rfl)
  rw [← rngs_nat] at r2
  exact ⟨out, seed', s6', s7', r1, r2⟩
theorem dd2 (z : Int) (sz : List Int) (hp : ∀ s ∈ sz, 0 < s ∧ s < 1073741824) (hl : sz.length < 1000) (hz : ¬ (1000000000000000000 : Int) ≤ z) : ∃ out, Dg out sz ∧ den_digits [.int z, .lst (sz.map .int)] = .ok (.lst (out.map .int)) [] := by
  have hge : geD (.int z) (.int 1000000000000000000) = some (.bl false) := by
    show some (D.bl (decide ((1000000000000000000 : Int) ≤ z))) = _
    rw [decide_eq_false hz]
  obtain ⟨out, seed', s6', s7', r1, r2⟩ := ll_ z sz hp hl (z % 2147483629) (hd_ z)
  refine ⟨out, r1, runD_ok rfl (e := [.fz (.int z), .fz (.lst (sz.map .int)), .fz (.lst (out.map .int)), .fz (.int z), .no, .fz (.int seed'), s6', s7']) ?_ rfl⟩
  have hsm : small (sz.length : Int) = true := hsmall hl
  have hmod : modD (.int z) (.int 2147483629) = some (.int (z % 2147483629)) := modD_ok (by decide)
  unfold ev_digits
  refine (run_seq (e1 := [.fz (.int z), .fz (.lst (sz.map .int)), .ow false (.lst []), .no, .no, .no, .no, .no]) ?_).trans ?_
  · rfl
  refine (run_seq (e1 := [.fz (.int z), .fz (.lst (sz.map .int)), .ow false (.lst []), .fz (.int z), .no, .no, .no, .no]) ?_).trans ?_
  · rfl
  refine (run_seq (e1 := [.fz (.int z), .fz (.lst (sz.map .int)), .ow false (.lst []), .fz (.int z), .no, .no, .no, .no]) ?_).trans ?_
  · simp [free, eBi, aCons, oVar, oVa, looks, look, R.bind, sIf, bE, eOp, eCst, pow18, hge, sNil]
  refine (run_seq (e1 := [.fz (.int z), .fz (.lst (sz.map .int)), .ow false (.lst []), .fz (.int z), .no, .fz (.int (z % 2147483629)), .no, .no]) ?_).trans ?_
  · simp [sSet, free, eBi, aCons, aNil, oVar, oVa, looks, look, intD, R.bind, eOp, eCst, hmod]
  refine (run_seq (e1 := [.fz (.int z), .fz (.lst (sz.map .int)), .ow false (.lst (out.map .int)), .fz (.int z), .no, .fz (.int seed'), s6', s7']) ?_).trans ?_
  · exact for_ok (iLen_ok (l := sz.map .int) rfl (by rw [List.length_map]; exact hsm)) (by rw [List.length_map]; exact r2)
  · rfl
theorem den_digits_ok (z : Int) (sz : List Int) (hp : ∀ s ∈ sz, 0 < s ∧ s < 1073741824) (hl : sz.length < 1000) : ∃ out, Dg out sz ∧ den_digits [.int z, .lst (sz.map .int)] = .ok (.lst (out.map .int)) [] := by
  by_cases hz : (1000000000000000000 : Int) ≤ z
  · exact dd1 z sz hp hl hz
  · exact dd2 z sz hp hl hz
end K06m
set_option Elab.async false
set_option linter.all false
set_option maxRecDepth 100000
set_option maxHeartbeats 4000000
/-! MB: the plain law of k06: the 24 kinds. -/
namespace K06m
open PySem PySem.Spec DP
open K06 hiding R

mutual
theorem eqv_self : ∀ d : D, PyData.eqv (toP d) (toP d) = true
  | .non => rfl
  | .bl b => by show (b == b) = true; simp
  | .int b => by show (b == b) = true; simp
  | .str b => by show (b == b) = true; simp
  | .tup xs => eqvs_self xs
  | .lst xs => eqvs_self xs
  | .scr _ => rfl
  | .dic _ => rfl
  | .dit _ => rfl
  | .obj _ _ => rfl
  | .exn _ _ => rfl
theorem eqvs_self : ∀ ds : List D, PyData.eqvAll (toPs ds) (toPs ds) = true
  | [] => rfl
  | d :: ds => by
    show (PyData.eqv (toP d) (toP d) && PyData.eqvAll (toPs ds) (toPs ds)) = true
    rw [eqv_self d, eqvs_self ds]
    rfl
end
theorem eqD_self {d : D} (h : pl d 64 = true) : eqD d d = some (.bl true) := by
  unfold eqD
  rw [if_pos ⟨h, h⟩]
  unfold eqB
  rw [eqv_self]
/-- the name and the fields of each kind -/
def err (k : Nat) (t : PySem.Str) (n : Int) (row : List D) : D := match k with
  | 0 => .exn "BadWorld" []
  | 1 => .exn "BadOrder" []
  | 2 => .exn "BadQuestion" []
  | 3 => .exn "BadValues" []
  | 4 => .exn "NotAWalk" []
  | 5 => .exn "BadJudge" []
  | 6 => .exn "BadGiven" []
  | 7 => .exn "BadStanding" []
  | 8 => .exn "NotRight" []
  | 9 => .exn "TooLarge" []
  | 10 => .exn "NothingToUndo" []
  | 11 => .exn "BadDeed" []
  | 12 => .exn "NoSuchRelation" [("name", .str t)]
  | 13 => .exn "BadRow" [("row", .tup row)]
  | 14 => .exn "BadText" [("place", .int n)]
  | 15 => .exn "Unvalued" [("variable", .str t)]
  | 16 => .exn "TooMany" [("limit", .int n)]
  | 17 => .exn "BadSide" [("side", .str t)]
  | 18 => .exn "TooLong" [("length", .int n)]
  | 19 => .exn "TakenName" [("name", .str t)]
  | 20 => .exn "UnknownWatch" [("name", .str t)]
  | 21 => .exn "NoSuchWord" [("word", .str t)]
  | 22 => .exn "BadNote" [("line", .int n)]
  | _ => .exn "BadLetter" [("letter", .int n)]
theorem ok1 {b : Bool} (h : b = true) : (DR.ok (.bl b) [] : DR) = .ok (.bl true) [] := by rw [h]
theorem err_ok (k : Nat) (hk : k < 24) (t : PySem.Str) (n : Int) (row : List D) : den_error [.int k, .str t, .int n, .tup row] = .ok (err k t n row) [] := by
  rcases k with _|_|_|_|_|_|_|_|_|_|_|_|_|_|_|_|_|_|_|_|_|_|_|_|k
  all_goals first | omega | kernel_rfl
theorem tup_ok {row : List D} (h : pls row 63 = true) : eqD (.tup row) (.tup row) = some (.bl true) := eqD_self h
theorem holds13 (t : PySem.Str) (n : Int) (row : List D) (hr : pls row 63 = true) : den_holds_field [err 13 t n row, .int 13, .str t, .int n, .tup row] = .ok (.bl true) [] := by
  refine runD_ok (by rfl) (e := [.fz (err 13 t n row), .fz (.int 13), .fz (.str t), .fz (.int n), .fz (.tup row), .no]) ?_ (by rfl)
  unfold ev_holds_field
  refine run_rt (run_ift (e1 := [.fz (err 13 t n row), .fz (.int 13), .fz (.str t), .fz (.int n), .fz (.tup row), .no]) (by kernel_rfl) (run_ret (run_andt (e1 := [.fz (err 13 t n row), .fz (.int 13), .fz (.str t), .fz (.int n), .fz (.tup row), .no]) (by kernel_rfl) ?_)))
  exact run_op (x := .va (.tup row)) (y := .va (.tup row)) (a := .tup row) (b := .tup row) (e1 := [.fz (err 13 t n row), .fz (.int 13), .fz (.str t), .fz (.int n), .fz (.tup row), .no]) (by kernel_rfl) (by kernel_rfl) (by kernel_rfl) (by kernel_rfl) (tup_ok hr)
theorem is13 (t : PySem.Str) (n : Int) (row : List D) (hr : pls row 63 = true) : den_is_error [err 13 t n row, .int 13, .str t, .int n, .tup row] = .ok (.bl true) [] := by
  refine runD_ok (by rfl) (e := [.fz (err 13 t n row), .fz (.int 13), .fz (.str t), .fz (.int n), .fz (.tup row)]) ?_ (by rfl)
  unfold ev_is_error
  refine (run_seq (e1 := [.fz (err 13 t n row), .fz (.int 13), .fz (.str t), .fz (.int n), .fz (.tup row)]) (by kernel_rfl)).trans ?_
  refine run_ret (run_orf (e1 := [.fz (err 13 t n row), .fz (.int 13), .fz (.str t), .fz (.int n), .fz (.tup row)]) (by kernel_rfl) ?_)
  exact run_call (os := [.va (err 13 t n row), .va (.int 13), .va (.str t), .va (.int n), .va (.tup row)]) (ds := [err 13 t n row, .int 13, .str t, .int n, .tup row]) (ms := []) (e1 := [.fz (err 13 t n row), .fz (.int 13), .fz (.str t), .fz (.int n), .fz (.tup row)]) (by kernel_rfl) (by kernel_rfl) List.nodup_nil (holds13 t n row hr)
theorem is0 (t : PySem.Str) (n : Int) (row : List D) : den_is_error [err 0 t n row, .int 0, .str t, .int n, .tup row] = .ok (.bl true) [] := by kernel_rfl
theorem is1 (t : PySem.Str) (n : Int) (row : List D) : den_is_error [err 1 t n row, .int 1, .str t, .int n, .tup row] = .ok (.bl true) [] := by kernel_rfl
theorem is2 (t : PySem.Str) (n : Int) (row : List D) : den_is_error [err 2 t n row, .int 2, .str t, .int n, .tup row] = .ok (.bl true) [] := by kernel_rfl
theorem is3 (t : PySem.Str) (n : Int) (row : List D) : den_is_error [err 3 t n row, .int 3, .str t, .int n, .tup row] = .ok (.bl true) [] := by kernel_rfl
theorem is4 (t : PySem.Str) (n : Int) (row : List D) : den_is_error [err 4 t n row, .int 4, .str t, .int n, .tup row] = .ok (.bl true) [] := by kernel_rfl
theorem is5 (t : PySem.Str) (n : Int) (row : List D) : den_is_error [err 5 t n row, .int 5, .str t, .int n, .tup row] = .ok (.bl true) [] := by kernel_rfl
theorem is6 (t : PySem.Str) (n : Int) (row : List D) : den_is_error [err 6 t n row, .int 6, .str t, .int n, .tup row] = .ok (.bl true) [] := by kernel_rfl
theorem is7 (t : PySem.Str) (n : Int) (row : List D) : den_is_error [err 7 t n row, .int 7, .str t, .int n, .tup row] = .ok (.bl true) [] := by kernel_rfl
theorem is8 (t : PySem.Str) (n : Int) (row : List D) : den_is_error [err 8 t n row, .int 8, .str t, .int n, .tup row] = .ok (.bl true) [] := by kernel_rfl
theorem is9 (t : PySem.Str) (n : Int) (row : List D) : den_is_error [err 9 t n row, .int 9, .str t, .int n, .tup row] = .ok (.bl true) [] := by kernel_rfl
theorem is10 (t : PySem.Str) (n : Int) (row : List D) : den_is_error [err 10 t n row, .int 10, .str t, .int n, .tup row] = .ok (.bl true) [] := by kernel_rfl
theorem is11 (t : PySem.Str) (n : Int) (row : List D) : den_is_error [err 11 t n row, .int 11, .str t, .int n, .tup row] = .ok (.bl true) [] := by kernel_rfl
theorem is12 (t : PySem.Str) (n : Int) (row : List D) : den_is_error [err 12 t n row, .int 12, .str t, .int n, .tup row] = .ok (.bl true) [] := Eq.trans (b := .ok (.bl (eqB (.str t) (.str t))) []) (by kernel_rfl) (ok1 (eqv_self (.str t)))
theorem is14 (t : PySem.Str) (n : Int) (row : List D) : den_is_error [err 14 t n row, .int 14, .str t, .int n, .tup row] = .ok (.bl true) [] := Eq.trans (b := .ok (.bl (eqB (.int n) (.int n))) []) (by kernel_rfl) (ok1 (eqv_self (.int n)))
theorem is15 (t : PySem.Str) (n : Int) (row : List D) : den_is_error [err 15 t n row, .int 15, .str t, .int n, .tup row] = .ok (.bl true) [] := Eq.trans (b := .ok (.bl (eqB (.str t) (.str t))) []) (by kernel_rfl) (ok1 (eqv_self (.str t)))
theorem is16 (t : PySem.Str) (n : Int) (row : List D) : den_is_error [err 16 t n row, .int 16, .str t, .int n, .tup row] = .ok (.bl true) [] := Eq.trans (b := .ok (.bl (eqB (.int n) (.int n))) []) (by kernel_rfl) (ok1 (eqv_self (.int n)))
theorem is17 (t : PySem.Str) (n : Int) (row : List D) : den_is_error [err 17 t n row, .int 17, .str t, .int n, .tup row] = .ok (.bl true) [] := Eq.trans (b := .ok (.bl (eqB (.str t) (.str t))) []) (by kernel_rfl) (ok1 (eqv_self (.str t)))
theorem is18 (t : PySem.Str) (n : Int) (row : List D) : den_is_error [err 18 t n row, .int 18, .str t, .int n, .tup row] = .ok (.bl true) [] := Eq.trans (b := .ok (.bl (eqB (.int n) (.int n))) []) (by kernel_rfl) (ok1 (eqv_self (.int n)))
theorem is19 (t : PySem.Str) (n : Int) (row : List D) : den_is_error [err 19 t n row, .int 19, .str t, .int n, .tup row] = .ok (.bl true) [] := Eq.trans (b := .ok (.bl (eqB (.str t) (.str t))) []) (by kernel_rfl) (ok1 (eqv_self (.str t)))
theorem is20 (t : PySem.Str) (n : Int) (row : List D) : den_is_error [err 20 t n row, .int 20, .str t, .int n, .tup row] = .ok (.bl true) [] := Eq.trans (b := .ok (.bl (eqB (.str t) (.str t))) []) (by kernel_rfl) (ok1 (eqv_self (.str t)))
theorem is21 (t : PySem.Str) (n : Int) (row : List D) : den_is_error [err 21 t n row, .int 21, .str t, .int n, .tup row] = .ok (.bl true) [] := Eq.trans (b := .ok (.bl (eqB (.str t) (.str t))) []) (by kernel_rfl) (ok1 (eqv_self (.str t)))
theorem is22 (t : PySem.Str) (n : Int) (row : List D) : den_is_error [err 22 t n row, .int 22, .str t, .int n, .tup row] = .ok (.bl true) [] := Eq.trans (b := .ok (.bl (eqB (.int n) (.int n))) []) (by kernel_rfl) (ok1 (eqv_self (.int n)))
theorem is23 (t : PySem.Str) (n : Int) (row : List D) : den_is_error [err 23 t n row, .int 23, .str t, .int n, .tup row] = .ok (.bl true) [] := Eq.trans (b := .ok (.bl (eqB (.int n) (.int n))) []) (by kernel_rfl) (ok1 (eqv_self (.int n)))
theorem is_ok (k : Nat) (hk : k < 24) (t : PySem.Str) (n : Int) (row : List D) (hr : pls row 63 = true) : den_is_error [err k t n row, .int k, .str t, .int n, .tup row] = .ok (.bl true) [] := by
  match k, hk with
  | 0, _ => exact is0 t n row
  | 1, _ => exact is1 t n row
  | 2, _ => exact is2 t n row
  | 3, _ => exact is3 t n row
  | 4, _ => exact is4 t n row
  | 5, _ => exact is5 t n row
  | 6, _ => exact is6 t n row
  | 7, _ => exact is7 t n row
  | 8, _ => exact is8 t n row
  | 9, _ => exact is9 t n row
  | 10, _ => exact is10 t n row
  | 11, _ => exact is11 t n row
  | 12, _ => exact is12 t n row
  | 13, _ => exact is13 t n row hr
  | 14, _ => exact is14 t n row
  | 15, _ => exact is15 t n row
  | 16, _ => exact is16 t n row
  | 17, _ => exact is17 t n row
  | 18, _ => exact is18 t n row
  | 19, _ => exact is19 t n row
  | 20, _ => exact is20 t n row
  | 21, _ => exact is21 t n row
  | 22, _ => exact is22 t n row
  | 23, _ => exact is23 t n row
  | k + 24, h => exact absurd h (by omega)
end K06m
set_option Elab.async false
set_option linter.all false
set_option maxRecDepth 100000
set_option maxHeartbeats 4000000
/-! MC: the plain law of k06: cells, texts, rows, the loop. -/
namespace K06m
open PySem PySem.Spec DP
open K06 hiding R

def nm : Sl → Bool
  | .ow true _ => false
  | _ => true
theorem free_of {e : En} {i : Nat} {s : Sl} (h : e[i]? = some s) (hn : nm s = true) : free e i = true := by
  unfold free
  rw [h]
  match s, hn with
  | .no, _ => rfl
  | .fz _, _ => rfl
  | .ow false _, _ => rfl
theorem addD_str {x y : PySem.Str} (h : x.length + y.length ≤ sizeLine) : addD (.str x) (.str y) = some (.str (x ++ y)) := by
  show (match (if x.length + y.length ≤ sizeLine then some (D.str (x ++ y)) else none) with
    | some d => some d
    | none => _) = _
  rw [if_pos h]
theorem addD_tup {x y : List D} (h : x.length + y.length ≤ sizeLine) : addD (.tup x) (.tup y) = some (.tup (x ++ y)) := by
  show (match (if x.length + y.length ≤ sizeLine then some (D.tup (x ++ y)) else none) with
    | some d => some d
    | none => _) = _
  rw [if_pos h]

/-! ### cells -/
theorem cell_loop (ns : List Int) (i : Int) : ∀ (cs : List Int) (s : Int) (s3 : Sl), (0 ≤ s ∧ s < 1000003) → nm s3 = true →
    ∃ s' s3', (0 ≤ s' ∧ s' < 1000003) ∧ forL (gN 3) b1_cell (cs.map .int) [.fz (.scr ns), .fz (.int i), .fz (.int s), s3] = .ok .nx [.fz (.scr ns), .fz (.int i), .fz (.int s'), s3']
  | [], s, s3, hs, h3 => ⟨s, s3, hs, rfl⟩
  | c :: cs, s, s3, hs, h3 => by
    obtain ⟨s', s3', h1, h2⟩ := cell_loop ns i cs ((s * 31 + c % 1000003) % 1000003) (.fz (.int c)) ⟨Int.emod_nonneg _ (by decide), Int.emod_lt_of_pos _ (by decide)⟩ rfl
    refine ⟨s', s3', h1, ?_⟩
    rw [List.map_cons, ← h2]
    refine forL_cons (gN_ok (free_of rfl h3)) ?_
    have m1 : decide ((31 : Int).natAbs < 18446744073709551616) = true := by decide
    have q1 : modD (.int c) (.int 1000003) = some (.int (c % 1000003)) := modD_ok (by decide)
    have q2 : modD (.int (s * 31 + c % 1000003)) (.int 1000003) = some (.int ((s * 31 + c % 1000003) % 1000003)) := modD_ok (by decide)
    unfold b1_cell
    simp [sSet, free, eOp, oVa, eBi, aCons, aNil, oVar, eCst, R.bind, look, looks, intD, addD_int, mulI_r m1, q1, q2]
theorem scr_ix {ns : List Int} {i : Int} (h0 : 0 ≤ i) (h1 : i < ns.length) : ∃ c, ixD (.scr ns) (.int i) = some (.int c) := by
  have e : ((i.toNat : Nat) : Int) = i := Int.toNat_of_nonneg h0
  have hi : i.toNat < ns.length := by omega
  obtain ⟨c, hc⟩ : ∃ c, ns[i.toNat]? = some c := ⟨_, List.getElem?_eq_getElem hi⟩
  refine ⟨c, ?_⟩
  have q : L2.atI ns i = some c := by rw [← e]; exact L2.atI_nat hc
  show (L2.atI ns i).map D.int = _
  rw [q]
  rfl
theorem cell_ok (ns : List Int) (hl : ns.length ≤ 63) (i : Int) (h0 : 0 ≤ i) (h1 : i < 1000) : ∃ c, den_cell [.scr ns, .int i] = .ok (.int c) [] := by
  have hlt : ltD (.int i) (.int ns.length) = some (.bl (decide (i < (ns.length : Int)))) := rfl
  have hlen : lenD [.scr ns] = some (.int ns.length) := rfl
  by_cases hi : i < (ns.length : Int)
  · obtain ⟨c, hc⟩ := scr_ix h0 hi
    rw [decide_eq_true hi] at hlt
    refine ⟨c, runD_ok rfl (e := [.fz (.scr ns), .fz (.int i), .no, .no]) ?_ rfl⟩
    unfold ev_cell
    refine run_rt (run_ift (e1 := [.fz (.scr ns), .fz (.int i), .no, .no]) ?_ (run_ret ?_))
    · simp [initE, slotOf, bE, eOp, oVa, eBi, aCons, aNil, oVar, R.bind, look, looks, hlen, hlt]
    · simp [eOp, oVar, R.bind, look, hc]
  · rw [decide_eq_false hi] at hlt
    obtain ⟨s', s3', h2, h3⟩ := cell_loop ns i ns 17 .no (by decide) rfl
    refine ⟨(s' + 7) * (i + 3) * 69621 % 2147483647, runD_ok rfl (e := [.fz (.scr ns), .fz (.int i), .fz (.int s'), s3']) ?_ rfl⟩
    unfold ev_cell
    refine (run_seq (e1 := [.fz (.scr ns), .fz (.int i), .no, .no]) (run_iff (e1 := [.fz (.scr ns), .fz (.int i), .no, .no]) ?_ rfl)).trans ?_
    · simp [initE, slotOf, bE, eOp, oVa, eBi, aCons, aNil, oVar, R.bind, look, looks, hlen, hlt]
    refine (run_seq (e1 := [.fz (.scr ns), .fz (.int i), .fz (.int 17), .no]) (by rfl)).trans ?_
    refine (run_seq (e1 := [.fz (.scr ns), .fz (.int i), .fz (.int s'), s3']) (for_ok (ds := ns.map .int) (e1 := [.fz (.scr ns), .fz (.int i), .fz (.int 17), .no]) (by rfl) h3)).trans ?_
    refine run_ret ?_
    have m1 : decide ((i + 3).natAbs < 18446744073709551616) = true := by rw [decide_eq_true_eq]; omega
    have m2 : decide ((69621 : Int).natAbs < 18446744073709551616) = true := by decide
    have q1 : modD (.int ((s' + 7) * (i + 3) * 69621)) (.int 2147483647) = some (.int ((s' + 7) * (i + 3) * 69621 % 2147483647)) := modD_ok (by decide)
    simp [eOp, oVa, eBi, aCons, aNil, oVar, eCst, R.bind, look, looks, intD, addD_int, mulI_r m1, mulI_r m2, q1]

/-! ### comprehensions -/
theorem lc_all {vs : List Nat} {st : D → En → Option En} {elt : M D} {E : En} {P : D → Prop} : ∀ {ds : List D}, (∀ d ∈ ds, ∃ e1 e2 y, st d (wipeE E vs) = some e1 ∧ elt e1 = .ok y e2 ∧ restore E e2 vs = E ∧ P y) →
    ∃ ys, lcL vs st bYes elt ds E = .ok ys E ∧ ys.length = ds.length ∧ ∀ y ∈ ys, P y
  | [], _ => ⟨[], rfl, rfl, fun _ z => nomatch z⟩
  | d :: ds, h => by
    obtain ⟨e1, e2, y, h1, h2, h3, h4⟩ := h d List.mem_cons_self
    obtain ⟨ys, g1, g2, g3⟩ := lc_all (ds := ds) fun d hd => h d (List.mem_cons_of_mem _ hd)
    refine ⟨y :: ys, ?_, congrArg Nat.succ g2, fun z hz => ?_⟩
    · rw [lcL]
      simp only [h1, bYes, h2, h3, g1]
    · rcases List.mem_cons.mp hz with rfl | hz
      · exact h4
      · exact g3 z hz
theorem nlc_ok {m : M (List D)} {vs : List Nat} {st : D → En → Option En} {elt : M D} {e E : En} {ds ys : List D} (h : m e = .ok ds E) (hn : noOw E vs = true) (hl : ds.length ≤ sizeLine) (h2 : lcL vs st bYes elt ds E = .ok ys E) : nLc m vs st bYes elt e = .ok (.lst ys) E := by
  unfold nLc
  simp only [h, R.bind, hn, hl, h2, and_self, if_true]

/-! ### texts -/
def signs : PySem.Str := " abcdefghijklmnopqrstuvwxyz0123456789ABCXYZ_-.,:;!?()<>=+*/"
theorem signs_len : signs.cps.toList.length = 59 := by decide +kernel
theorem str_ix {x : PySem.Str} {i : Int} (h0 : 0 ≤ i) (h1 : i < x.cps.toList.length) : ∃ c, ixD (.str x) (.int i) = some (.str ⟨#[c]⟩) := by
  have e : ((i.toNat : Nat) : Int) = i := Int.toNat_of_nonneg h0
  have hi : i.toNat < x.cps.toList.length := by omega
  obtain ⟨c, hc⟩ : ∃ c, x.cps.toList[i.toNat]? = some c := ⟨_, List.getElem?_eq_getElem hi⟩
  refine ⟨c, ?_⟩
  have q : L2.atI x.cps.toList i = some c := by rw [← e]; exact L2.atI_nat hc
  show (L2.atI x.cps.toList i).map (fun c => D.str ⟨#[c]⟩) = _
  rw [q]
  rfl
theorem strs1 : ∀ {ys : List D}, (∀ y ∈ ys, ∃ c, y = .str ⟨#[c]⟩) → ∃ zs : List PySem.Str, strsD ys = some zs ∧ (zs.map (·.length)).sum = ys.length ∧ zs.length = ys.length
  | [], _ => ⟨[], rfl, rfl, rfl⟩
  | y :: ys, h => by
    obtain ⟨c, rfl⟩ := h y List.mem_cons_self
    obtain ⟨zs, h1, h2, h3⟩ := strs1 (ys := ys) fun z hz => h z (List.mem_cons_of_mem _ hz)
    refine ⟨⟨#[c]⟩ :: zs, ?_, ?_, congrArg Nat.succ h3⟩
    · rw [strsD, h1]
      rfl
    · rw [List.map_cons, List.sum_cons, h2, List.length_cons]
      show 1 + ys.length = ys.length + 1
      omega
theorem joinL_len (S : List Nat) : ∀ ls : List (List Nat), (TL.joinL S ls).length ≤ (ls.map (·.length)).sum + ls.length * S.length
  | [] => Nat.zero_le _
  | [p] => by simp [TL.joinL]
  | p :: q :: r => by
    have h2 := joinL_len S (q :: r)
    show (p ++ (S ++ TL.joinL S (q :: r))).length ≤ _
    rw [List.length_append, List.length_append]
    simp only [List.map_cons, List.sum_cons, List.length_cons] at h2 ⊢
    have e : (r.length + 1 + 1) * S.length = (r.length + 1) * S.length + S.length := Nat.succ_mul _ _
    omega
theorem join_len (a : PySem.Str) (ys : List PySem.Str) : (Txt.join a ys).length ≤ (ys.map (·.length)).sum + ys.length * a.length := by
  rw [TL.join_eq]
  have e : (PySem.Str.join a ys).cps.toList = TL.joinL (TL.tl a) (ys.map TL.tl) := TL.tl_join a ys
  have h := joinL_len (TL.tl a) (ys.map TL.tl)
  rw [← e] at h
  have e1 : (ys.map TL.tl).map (·.length) = ys.map (·.length) := by
    rw [List.map_map]
    refine List.map_congr_left fun y _ => ?_
    show y.cps.toList.length = y.cps.size
    simp
  have e2 : (TL.tl a).length = a.length := by
    show a.cps.toList.length = a.cps.size
    simp
  rw [e1, e2, List.length_map] at h
  have e3 : (PySem.Str.join a ys).cps.toList.length = (PySem.Str.join a ys).length := by
    show _ = (PySem.Str.join a ys).cps.size
    simp
  omega
theorem lst_ix {out : List Int} {i d : Int} (h0 : 0 ≤ i) (h : out[i.toNat]? = some d) : ixD (.lst (out.map .int)) (.int i) = some (.int d) := by
  have e : ((i.toNat : Nat) : Int) = i := Int.toNat_of_nonneg h0
  rw [← e]
  exact ixL_ok (by rw [List.getElem?_map, h]; rfl)
def sz16 : List Int := 16 :: List.replicate 15 59
theorem text_ok (c : Int) : ∃ t, den_text [.int c] = .ok (.str t) [] ∧ t.length ≤ 100 := by
  obtain ⟨out, hD, hd⟩ := den_digits_ok c sz16 (by decide) (by decide)
  obtain ⟨d0, hd0, p1, p2⟩ := hD.get (k := 0) (s := 16) rfl
  have hix0 : ixD (.lst (out.map .int)) (.int 0) = some (.int d0) := lst_ix (by decide) hd0
  have hrg : rngs 0 d0 = (List.range' 0 d0.toNat).map fun i : Nat => D.int (i : Int) := by
    have e : ((d0.toNat : Nat) : Int) = d0 := Int.toNat_of_nonneg p1
    rw [← rngs_nat, e]
  have hs0 : small d0 = true := by
    unfold small
    rw [decide_eq_true_eq]
    omega
  obtain ⟨ys, g1, g2, g3⟩ := lc_all (vs := [3]) (st := gN 3) (elt := y1_text) (E := [.fz (.int c), .fz (.str signs), .fz (.lst (out.map .int)), .no]) (P := fun y => ∃ c, y = .str ⟨#[c]⟩) (ds := rngs 0 d0) (fun d hd => by
    rw [hrg] at hd
    obtain ⟨i, hi, rfl⟩ := List.mem_map.mp hd
    have hi' := List.mem_range'_1.mp hi
    have hlt : 1 + i < 16 := by omega
    obtain ⟨x, hx, x0, x1⟩ := hD.get (k := 1 + i) (s := 59) (by
      have : ∀ j, j < 15 → sz16[1 + j]? = some 59 := by decide
      exact this i (by omega))
    obtain ⟨ch, hch⟩ := str_ix (x := signs) (i := x) x0 (by rw [signs_len]; exact x1)
    have hix : ixD (.lst (out.map .int)) (.int (1 + (i : Int))) = some (.int x) := lst_ix (by omega) (by
      have e : (1 + (i : Int)).toNat = 1 + i := by omega
      rw [e]
      exact hx)
    refine ⟨[.fz (.int c), .fz (.str signs), .fz (.lst (out.map .int)), .fz (.int i)], [.fz (.int c), .fz (.str signs), .fz (.lst (out.map .int)), .fz (.int i)], _, rfl, ?_, rfl, ch, rfl⟩
    unfold y1_text
    simp [eOp, oVa, oVar, eCst, R.bind, look, addD_int, hix, hch])
  obtain ⟨zs, j1, j2, j3⟩ := strs1 g3
  have hlen : ys.length ≤ 15 := by
    rw [g2, hrg, List.length_map, List.length_range']
    omega
  have hj : joinD "" (.lst ys) = some (.str (Txt.join "" zs)) := by
    show ((strsD ys).bind fun ys => if (ys.map (·.length)).sum + ys.length * ("" : PySem.Str).length ≤ 16777216 then some (D.str (Txt.join "" ys)) else none) = _
    rw [j1]
    show (if (zs.map (·.length)).sum + zs.length * 0 ≤ 16777216 then some (D.str (Txt.join "" zs)) else none) = _
    rw [if_pos (by omega)]
  have hjl : (Txt.join "" zs).length ≤ 15 := by
    have := join_len "" zs
    have e : ("" : PySem.Str).length = 0 := rfl
    rw [e] at this
    omega
  have hadd : addD (.str "x") (.str (Txt.join "" zs)) = some (.str ("x" ++ Txt.join "" zs)) := addD_str (by
    have e : ("x" : PySem.Str).length = 1 := rfl
    rw [e, sizeLine_eq]
    omega)
  refine ⟨"x" ++ Txt.join "" zs, runD_ok rfl (e := [.fz (.int c), .fz (.str signs), .fz (.lst (out.map .int)), .no]) ?_ rfl, ?_⟩
  · unfold ev_text
    refine (run_seq (e1 := [.fz (.int c), .fz (.str signs), .no, .no]) (by rfl)).trans ?_
    refine (run_seq (e1 := [.fz (.int c), .fz (.str signs), .fz (.lst (out.map .int)), .no]) (run_set (i := 2) (d := .lst (out.map .int)) (e1 := [.fz (.int c), .fz (.str signs), .no, .no]) ?_ rfl)).trans ?_
    · exact run_call (os := [.va (.int c), .va (.lst (sz16.map .int))]) (ds := [.int c, .lst (sz16.map .int)]) (ms := []) (e1 := [.fz (.int c), .fz (.str signs), .no, .no]) (by kernel_rfl) (by rfl) List.nodup_nil hd
    · refine run_ret ?_
      have hn : nLc (iRg1 (aCons (oVa (eOp ixD (oVar 2) (oVa (eCst (.int 0))))) aNil)) [3] (gN 3) bYes y1_text [.fz (.int c), .fz (.str signs), .fz (.lst (out.map .int)), .no] = .ok (.lst ys) [.fz (.int c), .fz (.str signs), .fz (.lst (out.map .int)), .no] := by
        refine nlc_ok (ds := rngs 0 d0) ?_ rfl (by rw [← g2, sizeLine_eq]; omega) g1
        rw [iRg1_eq]
        have q : aCons (oVa (eOp ixD (oVar 2) (oVa (eCst (.int 0))))) aNil [.fz (.int c), .fz (.str signs), .fz (.lst (out.map .int)), .no] = .ok [.va (.int d0)] [.fz (.int c), .fz (.str signs), .fz (.lst (out.map .int)), .no] := by
          simp [aCons, aNil, eOp, oVa, oVar, eCst, R.bind, look, hix0]
        rw [q]
        exact rg1_ok hs0
      generalize hN : nLc (iRg1 (aCons (oVa (eOp ixD (oVar 2) (oVa (eCst (.int 0))))) aNil)) [3] (gN 3) bYes y1_text = N at hn
      simp [eOp, eJoin, oVa, oVar, eCst, R.bind, look, hn, hj, hadd]
  · show (("x" : PySem.Str).cps ++ (Txt.join "" zs).cps).size ≤ 100
    rw [Array.size_append]
    have e : ("x" : PySem.Str).cps.size = 1 := rfl
    have e2 : (Txt.join "" zs).cps.size = (Txt.join "" zs).length := rfl
    omega
end K06m
set_option Elab.async false
set_option linter.all false
set_option maxRecDepth 100000
set_option maxHeartbeats 8000000
/-! MD: the plain law of k06: one turn of the loop, the law (printed by mkMD.py). -/
namespace K06m
open PySem PySem.Spec DP
open K06 hiding R
def szL : List Int := [5, 400, 400, 400, 400, 23, 1000000000]
theorem pow9 : powD (.int 10) (.int 9) = some (.int 1000000000) := by rfl
theorem pow30 : powD (.int 10) (.int 30) = some (.int 1000000000000000000000000000000) := by rfl
theorem sz1 : 1 ≤ sizeLine := by rw [sizeLine_eq]; decide
theorem pls_app : ∀ {xs ys : List D} {n : Nat}, pls xs n = true → pls ys n = true → pls (xs ++ ys) n = true
  | [], _, _, _, h => h
  | x :: xs, ys, n, h, g => by
    show (pl x n && pls (xs ++ ys) n) = true
    have h' : (pl x n && pls xs n) = true := h
    rw [Bool.and_eq_true] at h' ⊢
    exact ⟨h'.1, pls_app h'.2 g⟩
theorem pls_int : ∀ {ys : List D} {n : Nat}, (∀ y ∈ ys, ∃ i, y = .int i) → pls ys n = true
  | [], _, _ => rfl
  | y :: ys, n, h => by
    obtain ⟨i, rfl⟩ := h _ List.mem_cons_self
    show (true && pls ys n) = true
    rw [pls_int fun z hz => h z (List.mem_cons_of_mem _ hz)]
    rfl
theorem row_ok {E : En} {ys : List D} (h : nLc (iRg1 (aCons (oVa (eOp ixD (oVar 2) (oVa (eCst (.int 0))))) aNil)) [10] (gN 10) bYes y1_law E = .ok (.lst ys) E) :
    eBi tupD (aCons (oVa (nLc (iRg1 (aCons (oVa (eOp ixD (oVar 2) (oVa (eCst (.int 0))))) aNil)) [10] (gN 10) bYes y1_law)) aNil) E = .ok (.tup ys) E := by
  generalize nLc (iRg1 (aCons (oVa (eOp ixD (oVar 2) (oVa (eCst (.int 0))))) aNil)) [10] (gN 10) bYes y1_law = N at h
  simp [eBi, aCons, aNil, oVa, R.bind, looks, look, h, tupD]
theorem row_has (ns : List Int) (k : Nat) (out : List Int) (a3 a4 a5 a6 a7 a8 a9 a10 : Sl) (h10 : a10 = .no ∨ ∃ d, a10 = .fz d) (hD : Dg out szL) : ∃ ys : List D, ys.length ≤ 4 ∧ (∀ y ∈ ys, ∃ i, y = .int i) ∧
    nLc (iRg1 (aCons (oVa (eOp ixD (oVar 2) (oVa (eCst (.int 0))))) aNil)) [10] (gN 10) bYes y1_law [.fz (.scr ns), .fz (.int k), .fz (.lst (out.map .int)), a3, a4, a5, a6, a7, a8, a9, a10] = .ok (.lst ys) [.fz (.scr ns), .fz (.int k), .fz (.lst (out.map .int)), a3, a4, a5, a6, a7, a8, a9, a10] := by
  obtain ⟨d0, hd0, p1, p2⟩ := hD.get (k := 0) (s := 5) rfl
  have hix0 : ixD (.lst (out.map .int)) (.int 0) = some (.int d0) := lst_ix (by decide) hd0
  have hrg : rngs 0 d0 = (List.range' 0 d0.toNat).map fun i : Nat => D.int (i : Int) := by
    have e : ((d0.toNat : Nat) : Int) = d0 := Int.toNat_of_nonneg p1
    rw [← rngs_nat, e]
  have hs0 : small d0 = true := by
    unfold small
    rw [decide_eq_true_eq]
    omega
  obtain ⟨ys, g1, g2, g3⟩ := lc_all (vs := [10]) (st := gN 10) (elt := y1_law) (E := [.fz (.scr ns), .fz (.int k), .fz (.lst (out.map .int)), a3, a4, a5, a6, a7, a8, a9, a10]) (P := fun y => ∃ i, y = .int i) (ds := rngs 0 d0) (fun d hd => by
    rw [hrg] at hd
    obtain ⟨i, hi, rfl⟩ := List.mem_map.mp hd
    have hi' := List.mem_range'_1.mp hi
    obtain ⟨x, hx, x0, x1⟩ := hD.get (k := 1 + i) (s := 400) (by
      have : ∀ j, j < 4 → szL[1 + j]? = some 400 := by decide
      exact this i (by omega))
    have hix : ixD (.lst (out.map .int)) (.int (1 + (i : Int))) = some (.int x) := lst_ix (by omega) (by
      have e : (1 + (i : Int)).toNat = 1 + i := by omega
      rw [e]
      exact hx)
    refine ⟨[.fz (.scr ns), .fz (.int k), .fz (.lst (out.map .int)), a3, a4, a5, a6, a7, a8, a9, .fz (.int i)], [.fz (.scr ns), .fz (.int k), .fz (.lst (out.map .int)), a3, a4, a5, a6, a7, a8, a9, .fz (.int i)], _, rfl, ?_, rfl, x, rfl⟩
    unfold y1_law
    simp [eOp, oVa, oVar, eCst, R.bind, look, addD_int, hix])
  have hlen : ys.length ≤ 4 := by
    rw [g2, hrg, List.length_map, List.length_range']
    omega
  refine ⟨ys, hlen, g3, nlc_ok (ds := rngs 0 d0) ?_ (by rcases h10 with rfl | ⟨_, rfl⟩ <;> rfl) (by rw [← g2, sizeLine_eq]; omega) g1⟩
  rw [iRg1_eq]
  have q : aCons (oVa (eOp ixD (oVar 2) (oVa (eCst (.int 0))))) aNil [.fz (.scr ns), .fz (.int k), .fz (.lst (out.map .int)), a3, a4, a5, a6, a7, a8, a9, a10] = .ok [.va (.int d0)] [.fz (.scr ns), .fz (.int k), .fz (.lst (out.map .int)), a3, a4, a5, a6, a7, a8, a9, a10] := by
    simp [aCons, aNil, eOp, oVa, oVar, eCst, R.bind, look, hix0]
  rw [q]
  exact rg1_ok hs0
theorem turn (ns : List Int) (hl : ns.length ≤ 63) (k : Nat) (hk : k < 24) (a2 a3 a4 a5 a6 a7 a8 a9 a10 : Sl) (h2 : nm a2 = true) (h3 : nm a3 = true) (h4 : nm a4 = true) (h5 : nm a5 = true) (h6 : nm a6 = true) (h7 : nm a7 = true) (h8 : nm a8 = true) (h9 : nm a9 = true) (h10 : a10 = .no ∨ ∃ d, a10 = .fz d) :
    ∃ b2 b3 b4 b5 b6 b7 b8 b9 : Sl, (nm b2 = true ∧ nm b3 = true ∧ nm b4 = true ∧ nm b5 = true ∧ nm b6 = true ∧ nm b7 = true ∧ nm b8 = true ∧ nm b9 = true) ∧ b2_law [.fz (.scr ns), .fz (.int k), a2, a3, a4, a5, a6, a7, a8, a9, a10] = .ok .nx [.fz (.scr ns), .fz (.int k), b2, b3, b4, b5, b6, b7, b8, b9, a10] := by
  obtain ⟨c, hc⟩ := cell_ok ns hl (k : Int) (by omega) (by omega)
  obtain ⟨c2, hc2⟩ := cell_ok ns hl (24 + (k : Int)) (by omega) (by omega)
  obtain ⟨out, hD, hd⟩ := den_digits_ok c szL (by decide) (by decide)
  obtain ⟨t, ht, htl⟩ := text_ok c2
  obtain ⟨d5, hd5, _, _⟩ := hD.get (k := 5) (s := 23) rfl
  obtain ⟨d6, hd6, _, _⟩ := hD.get (k := 6) (s := 1000000000) rfl
  have hix5 : ixD (.lst (out.map .int)) (.int 5) = some (.int d5) := lst_ix (by decide) hd5
  have hix6 : ixD (.lst (out.map .int)) (.int 6) = some (.int d6) := lst_ix (by decide) hd6
  have hm30 : modD (.int c) (.int 1000000000000000000000000000000) = some (.int (c % 1000000000000000000000000000000)) := modD_ok (by decide)
  obtain ⟨o, ho, hmo⟩ : ∃ o : Nat, o < 24 ∧ modD (.int ((k : Int) + 1 + d5)) (.int 24) = some (.int (o : Int)) := by
    have q0 : 0 ≤ ((k : Int) + 1 + d5) % 24 := Int.emod_nonneg _ (by decide)
    have q1 : ((k : Int) + 1 + d5) % 24 < 24 := Int.emod_lt_of_pos _ (by decide)
    refine ⟨(((k : Int) + 1 + d5) % 24).toNat, by omega, ?_⟩
    rw [modD_ok (by decide), Int.toNat_of_nonneg q0]
  obtain ⟨ys, hyl, hyi, hrow⟩ := row_has ns k out (.fz (.str t)) (.fz (.int (c % 1000000000000000000000000000000 - d6))) a5 a6 a7 a8 a9 a10 h10 hD
  have hys : pls ys 63 = true := pls_int hyi
  have hys7 : pls (ys ++ [.int 7]) 63 = true := pls_app hys rfl
  have hys5 : pls (.int 5 :: ys) 63 = true := pls_app (xs := [.int 5]) rfl hys
  have l1 : ("'" : PySem.Str).length = 1 := rfl
  have l2 : ("x" : PySem.Str).length = 1 := rfl
  have hst : addD (.str t) (.str "'") = some (.str (t ++ "'")) := addD_str (by rw [l1, sizeLine_eq]; omega)
  have hst2 : addD (.str "x") (.str t) = some (.str ("x" ++ t)) := addD_str (by rw [l2, sizeLine_eq]; omega)
  have hrw : addD (.tup ys) (.tup [.int 7]) = some (.tup (ys ++ [.int 7])) := addD_tup (by rw [sizeLine_eq]; simp; omega)
  have hrw2 : addD (.tup [.int 5]) (.tup ys) = some (.tup (.int 5 :: ys)) := addD_tup (by rw [sizeLine_eq]; simp; omega)
  refine ⟨.fz (.lst (out.map .int)), .fz (.str t), .fz (.int (c % 1000000000000000000000000000000 - d6)), .fz (.tup ys), .fz (.int ((o : Nat) : Int)), .fz (err k t (c % 1000000000000000000000000000000 - d6) ys), .fz (err k (t ++ "'") (c % 1000000000000000000000000000000 - d6 + 1) (ys ++ [.int 7])), .fz (err o ("x" ++ t) (c % 1000000000000000000000000000000 - d6 - 1) (.int 5 :: ys)), ⟨rfl, rfl, rfl, rfl, rfl, rfl, rfl, rfl⟩, ?_⟩
  unfold b2_law
  refine (run_seq (e1 := [.fz (.scr ns), .fz (.int k), .fz (.lst (out.map .int)), a3, a4, a5, a6, a7, a8, a9, a10]) (run_set (i := 2) (d := .lst (out.map .int)) (e1 := [.fz (.scr ns), .fz (.int k), a2, a3, a4, a5, a6, a7, a8, a9, a10]) ?_ (free_of rfl h2))).trans ?_
  · exact run_call (os := [.va (.int c), .va (.lst (szL.map .int))]) (ds := [.int c, .lst (szL.map .int)]) (ms := []) (e1 := [.fz (.scr ns), .fz (.int k), a2, a3, a4, a5, a6, a7, a8, a9, a10]) (by simp [eCall, eOp, oVa, eVar, eCst, aCons, aNil, nLst, vas, R.bind, look, argsOf, mIx, wback, hc, szL, pow9, sizeLine_eq]) (by rfl) List.nodup_nil hd
  refine (run_seq (e1 := [.fz (.scr ns), .fz (.int k), .fz (.lst (out.map .int)), .fz (.str t), a4, a5, a6, a7, a8, a9, a10]) (run_set (i := 3) (d := .str t) (e1 := [.fz (.scr ns), .fz (.int k), .fz (.lst (out.map .int)), a3, a4, a5, a6, a7, a8, a9, a10]) ?_ (free_of rfl h3))).trans ?_
  · simp [eCall, eOp, eBi, eTup, vas, eVar, oVa, oVar, eCst, aCons, aNil, R.bind, look, looks, argsOf, mIx, wback, addD_int, hc2, ht]
  refine (run_seq (e1 := [.fz (.scr ns), .fz (.int k), .fz (.lst (out.map .int)), .fz (.str t), .fz (.int (c % 1000000000000000000000000000000 - d6)), a5, a6, a7, a8, a9, a10]) (run_set (i := 4) (d := .int (c % 1000000000000000000000000000000 - d6)) (e1 := [.fz (.scr ns), .fz (.int k), .fz (.lst (out.map .int)), .fz (.str t), a4, a5, a6, a7, a8, a9, a10]) ?_ (free_of rfl h4))).trans ?_
  · simp [eCall, eOp, eBi, eTup, vas, eVar, oVa, oVar, eCst, aCons, aNil, R.bind, look, looks, argsOf, mIx, wback, intD, hc, pow30, hm30, hix6, subD_int]
  generalize c % 1000000000000000000000000000000 - d6 = n at *
  refine (run_seq (e1 := [.fz (.scr ns), .fz (.int k), .fz (.lst (out.map .int)), .fz (.str t), .fz (.int n), .fz (.tup ys), a6, a7, a8, a9, a10]) (run_set (i := 5) (d := .tup ys) (e1 := [.fz (.scr ns), .fz (.int k), .fz (.lst (out.map .int)), .fz (.str t), .fz (.int n), a5, a6, a7, a8, a9, a10]) ?_ (free_of rfl h5))).trans ?_
  · exact row_ok hrow
  refine (run_seq (e1 := [.fz (.scr ns), .fz (.int k), .fz (.lst (out.map .int)), .fz (.str t), .fz (.int n), .fz (.tup ys), .fz (.int ((o : Nat) : Int)), a7, a8, a9, a10]) (run_set (i := 6) (d := .int ((o : Nat) : Int)) (e1 := [.fz (.scr ns), .fz (.int k), .fz (.lst (out.map .int)), .fz (.str t), .fz (.int n), .fz (.tup ys), a6, a7, a8, a9, a10]) ?_ (free_of rfl h6))).trans ?_
  · simp [eCall, eOp, eBi, eTup, vas, eVar, oVa, oVar, eCst, aCons, aNil, R.bind, look, looks, argsOf, mIx, wback, intD, addD_int, hix5, hmo]
  refine (run_seq (e1 := [.fz (.scr ns), .fz (.int k), .fz (.lst (out.map .int)), .fz (.str t), .fz (.int n), .fz (.tup ys), .fz (.int ((o : Nat) : Int)), .fz (err k t n ys), a8, a9, a10]) (run_set (i := 7) (d := err k t n ys) (e1 := [.fz (.scr ns), .fz (.int k), .fz (.lst (out.map .int)), .fz (.str t), .fz (.int n), .fz (.tup ys), .fz (.int ((o : Nat) : Int)), a7, a8, a9, a10]) ?_ (free_of rfl h7))).trans ?_
  · simp [eCall, eOp, eBi, eTup, vas, eVar, oVa, oVar, eCst, aCons, aNil, R.bind, look, looks, argsOf, mIx, wback, err_ok k hk t n ys]
  refine (run_seq (e1 := [.fz (.scr ns), .fz (.int k), .fz (.lst (out.map .int)), .fz (.str t), .fz (.int n), .fz (.tup ys), .fz (.int ((o : Nat) : Int)), .fz (err k t n ys), .fz (err k (t ++ "'") (n + 1) (ys ++ [.int 7])), a9, a10]) (run_set (i := 8) (d := err k (t ++ "'") (n + 1) (ys ++ [.int 7])) (e1 := [.fz (.scr ns), .fz (.int k), .fz (.lst (out.map .int)), .fz (.str t), .fz (.int n), .fz (.tup ys), .fz (.int ((o : Nat) : Int)), .fz (err k t n ys), a8, a9, a10]) ?_ (free_of rfl h8))).trans ?_
  · simp [eCall, eOp, eBi, eTup, vas, eVar, oVa, oVar, eCst, aCons, aNil, R.bind, look, looks, argsOf, mIx, wback, addD_int, hst, hrw, sz1, err_ok k hk (t ++ "'") (n + 1) (ys ++ [.int 7])]
  refine (run_seq (e1 := [.fz (.scr ns), .fz (.int k), .fz (.lst (out.map .int)), .fz (.str t), .fz (.int n), .fz (.tup ys), .fz (.int ((o : Nat) : Int)), .fz (err k t n ys), .fz (err k (t ++ "'") (n + 1) (ys ++ [.int 7])), .fz (err o ("x" ++ t) (n - 1) (.int 5 :: ys)), a10]) (run_set (i := 9) (d := err o ("x" ++ t) (n - 1) (.int 5 :: ys)) (e1 := [.fz (.scr ns), .fz (.int k), .fz (.lst (out.map .int)), .fz (.str t), .fz (.int n), .fz (.tup ys), .fz (.int ((o : Nat) : Int)), .fz (err k t n ys), .fz (err k (t ++ "'") (n + 1) (ys ++ [.int 7])), a9, a10]) ?_ (free_of rfl h9))).trans ?_
  · simp [eCall, eOp, eBi, eTup, vas, eVar, oVa, oVar, eCst, aCons, aNil, R.bind, look, looks, argsOf, mIx, wback, subD_int, hst2, hrw2, sz1, err_ok o ho ("x" ++ t) (n - 1) (.int 5 :: ys)]
  refine (run_seq (e1 := [.fz (.scr ns), .fz (.int k), .fz (.lst (out.map .int)), .fz (.str t), .fz (.int n), .fz (.tup ys), .fz (.int ((o : Nat) : Int)), .fz (err k t n ys), .fz (err k (t ++ "'") (n + 1) (ys ++ [.int 7])), .fz (err o ("x" ++ t) (n - 1) (.int 5 :: ys)), a10]) (run_iff (e1 := [.fz (.scr ns), .fz (.int k), .fz (.lst (out.map .int)), .fz (.str t), .fz (.int n), .fz (.tup ys), .fz (.int ((o : Nat) : Int)), .fz (err k t n ys), .fz (err k (t ++ "'") (n + 1) (ys ++ [.int 7])), .fz (err o ("x" ++ t) (n - 1) (.int 5 :: ys)), a10]) ?_ rfl)).trans ?_
  · simp [bNot, bE, eCall, eOp, eBi, eTup, vas, eVar, oVa, oVar, eCst, aCons, aNil, R.bind, look, looks, argsOf, mIx, wback, is_ok k hk t n ys hys]
  refine (run_seq (e1 := [.fz (.scr ns), .fz (.int k), .fz (.lst (out.map .int)), .fz (.str t), .fz (.int n), .fz (.tup ys), .fz (.int ((o : Nat) : Int)), .fz (err k t n ys), .fz (err k (t ++ "'") (n + 1) (ys ++ [.int 7])), .fz (err o ("x" ++ t) (n - 1) (.int 5 :: ys)), a10]) (run_iff (e1 := [.fz (.scr ns), .fz (.int k), .fz (.lst (out.map .int)), .fz (.str t), .fz (.int n), .fz (.tup ys), .fz (.int ((o : Nat) : Int)), .fz (err k t n ys), .fz (err k (t ++ "'") (n + 1) (ys ++ [.int 7])), .fz (err o ("x" ++ t) (n - 1) (.int 5 :: ys)), a10]) ?_ rfl)).trans ?_
  · simp [bNot, bE, eCall, eOp, eBi, eTup, vas, eVar, oVa, oVar, eCst, aCons, aNil, R.bind, look, looks, argsOf, mIx, wback, is_ok k hk (t ++ "'") (n + 1) (ys ++ [.int 7]) hys7, addD_int, hst, hrw, sz1]
  refine (run_iff (e1 := [.fz (.scr ns), .fz (.int k), .fz (.lst (out.map .int)), .fz (.str t), .fz (.int n), .fz (.tup ys), .fz (.int ((o : Nat) : Int)), .fz (err k t n ys), .fz (err k (t ++ "'") (n + 1) (ys ++ [.int 7])), .fz (err o ("x" ++ t) (n - 1) (.int 5 :: ys)), a10]) ?_ (by rfl))
  · simp [bNot, bE, eCall, eOp, eBi, eTup, vas, eVar, oVa, oVar, eCst, aCons, aNil, R.bind, look, looks, argsOf, mIx, wback, is_ok o ho ("x" ++ t) (n - 1) (.int 5 :: ys) hys5, subD_int, hst2, hrw2, sz1]
theorem turns (ns : List Int) (hl : ns.length ≤ 63) : ∀ (ks : List Nat), (∀ k ∈ ks, k < 24) → ∀ a1 a2 a3 a4 a5 a6 a7 a8 a9 : Sl, nm a1 = true → nm a2 = true → nm a3 = true → nm a4 = true → nm a5 = true → nm a6 = true → nm a7 = true → nm a8 = true → nm a9 = true →
    ∃ e : En, forL (gN 1) b2_law (ks.map fun i : Nat => D.int (i : Int)) [.fz (.scr ns), a1, a2, a3, a4, a5, a6, a7, a8, a9, .no] = .ok .nx (.fz (.scr ns) :: e)
  | [], _, a1, a2, a3, a4, a5, a6, a7, a8, a9, _, _, _, _, _, _, _, _, _ => ⟨_, rfl⟩
  | k :: ks, hk, a1, a2, a3, a4, a5, a6, a7, a8, a9, h1, h2, h3, h4, h5, h6, h7, h8, h9 => by
    obtain ⟨b2, b3, b4, b5, b6, b7, b8, b9, ⟨g2, g3, g4, g5, g6, g7, g8, g9⟩, q⟩ := turn ns hl k (hk k List.mem_cons_self) a2 a3 a4 a5 a6 a7 a8 a9 .no h2 h3 h4 h5 h6 h7 h8 h9 (.inl rfl)
    obtain ⟨e, he⟩ := turns ns hl ks (fun x hx => hk x (List.mem_cons_of_mem _ hx)) (.fz (.int k)) b2 b3 b4 b5 b6 b7 b8 b9 rfl g2 g3 g4 g5 g6 g7 g8 g9
    refine ⟨e, ?_⟩
    rw [List.map_cons, ← he]
    exact forL_cons (gN_ok (free_of rfl h1)) q
theorem law_ok (ns : List Int) (hl : ns.length ≤ 63) : ∃ ms, den_law [.scr ns] = .ok (.bl true) ms := by
  obtain ⟨e, he⟩ := turns ns hl (List.range' 0 24) (by decide) .no .no .no .no .no .no .no .no .no rfl rfl rfl rfl rfl rfl rfl rfl rfl
  refine ⟨[], ?_⟩
  unfold den_law runD
  rw [if_pos (by rfl)]
  have h : ev_law (initE [false] 11 [.scr ns]) = .ok (.rt (.bl true)) (.fz (.scr ns) :: e) := by
    unfold ev_law
    refine (run_seq (for_ok (ds := (List.range' 0 24).map fun i : Nat => D.int (i : Int)) (e1 := [.fz (.scr ns), .no, .no, .no, .no, .no, .no, .no, .no, .no, .no]) ?_ he)).trans (by rfl)
    rw [← rngs_nat]
    rfl
  rw [h]
  rfl
end K06m
theorem K06.math : ∀ ns : List Int, ns.length ≤ 63 → (∀ z ∈ ns, PySem.Builtin.Int.intBits z ≤ 1048576) → ∃ ms, K06.den_law [.scr ns] = .ok (.bl true) ms := fun ns hl _ => K06m.law_ok ns hl
open PySem PySem.W PySem.Calls PyProof.Rows
set_option maxHeartbeats 0 in
theorem PySem.Challenge.cw_onceread_k06_error_classes_holds : PySem.Challenge.rw_onceread_k06_error_classes.Holds := by
  w_on; o_law
  refine HandSHeadRun.head_any (r := OpenLaw.row PySem.Challenge.rw_onceread_k06_error_classes) (q := view (OpenLaw.row PySem.Challenge.rw_onceread_k06_error_classes).prog [37]) (H := K06.hk) (ob := K06.ob) (M := 12000) (loose := K06.names) (d := HandSHeadRun.topDef (OpenLaw.row PySem.Challenge.rw_onceread_k06_error_classes).prog 37) (kwd := []) K06.ob_eq
    (by kernel_rfl) (fun s => by kernel_rfl) K06.run (by kernel_rfl) (by kernel_rfl) (by kernel_rfl) (by rfl) (by first | assumption | decide +kernel) (by decide +kernel) ⟨rfl, rfl, rfl, rfl, rfl, by decide +kernel⟩ ?hw ?hc
  case hw => w_witness2
  case hc =>
    exact DP.walk_dp (l := PySem.Challenge.rw_onceread_k06_error_classes) (k := 5) (x := "_law_script") rfl (by kernel_rfl) ⟨rfl, by decide, by decide⟩ (by kernel_rfl)
      (fun w K mg h KX G c => K06.ok_all (P := (PySem.Challenge.rw_onceread_k06_error_classes).prog) (w := w) KX G c) K06.math
