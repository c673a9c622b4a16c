import PyProof.Rows.All
import Wide.All
import OpenK.AllK
import Wide.FinOn
import HandS.ForMost
import HandS.ForExc
import HandS.ExcInit
import HandS.ExcValue
import HandS.ExcIs
import HandS.ExcField
import HandS.IsInst
import HandS.Defaults
import HandS.Wide
import HandS.Deep
import HandS.TupAny
import HandS.LawCells
import HandS.CallSlots
import KE.KExcIs
import KE.KStateDown
import HandS.Head0
import HandS.Head1
import HandS.Head2
import HandS.HeadEnd
import HandS.HeadHook1
import HandS.HeadHook2
import HandS.HeadWalk
import HandS.RaiseMore
import HandS.TryMany
import PyProof.StrLawsChain
import HandS.Iter
import HandS.FStr
import HandS.SortInts
import HandS.Zip
import HandS.HotCalls
import HandS.StrMore
import HandS.TupMul
import PyProof.ReprRoads
import PyProof.StrOps2
import HandS.SortKw
import KE.GoesEnumKw
import PySem.Challenge.RW_onceread_k37_paper_notes_whole
import KE.IntTextText
set_option Elab.async false
set_option linter.all false
set_option maxRecDepth 100000
set_option maxHeartbeats 2000000
/-! DP1: data behind the heap, slots that own or share, programs of data; expressions. -/
namespace DP
open PySem PySem.Spec L2
open PyProof.Rows hiding St

/-- plain data -/
inductive D where
  | non | bl (b : Bool) | int (i : Int) | str (x : Str)
  | tup (xs : List D) | lst (xs : List D) | scr (ns : List Int)
  | dic (ks : List (Key × D)) | dit (ks : List (List Key × D))
  | obj (c : Str) (fs : List (Str × D))
  | exn (c : Str) (fs : List (Str × D))
  deriving Inhabited

structure Sg where
  K : PySem.W.Frag
  T : Str → Option Addr

def sOk (x : Str) : Prop := x.length ≤ sizeLine ∧ PyData.strOk x = true

/-- a caught error as an object: its class, its dict, any fields -/
def exf (e C : Addr) (d : Option Addr) : HO := .ext fun h => ∃ (o : Obj) (vs : Array Value), h.get? e = some o ∧ o.cls = .ref C ∧ o.dict = d ∧ o.data = .fields vs
/-- an error's object, made or caught; its dict -/
def ExO (F : Hp) (a C : Addr) (d : Option Addr) : Prop := F a = some (exo a C d) ∨ F a = some (exf a C d)
def ExF (F : Hp) (a : Addr) (fs : List (Str × V)) : Prop := F a = some (exd a fs) ∨ F a = some (.xd fs)
theorem ExO.mono {F F' : Hp} {a C : Addr} {d : Option Addr} (e : Same F F') (h : ExO F a C d) : ExO F' a C d := h.imp (e _ _) (e _ _)
theorem ExF.mono {F F' : Hp} {a : Addr} {fs : List (Str × V)} (e : Same F F') (h : ExF F a fs) : ExF F' a fs := h.imp (e _ _) (e _ _)
mutual
inductive Dat (S : Sg) (F : Hp) : V → D → Prop
  | non : Dat S F .non .non
  | bl (b : Bool) : Dat S F (.bl b) (.bl b)
  | int (i : Int) : Dat S F (.int i) (.int i)
  | str {x : Str} : sOk x → Dat S F (.str x) (.str x)
  | tup {a : Addr} {xs : List V} {ds : List D} : SqT S.K F a xs → ds.length ≤ sizeLine → Dats S F xs ds → Dat S F (.ref a) (.tup ds)
  | lst {a : Addr} {xs : List V} {ds : List D} : Rd F a (.lst xs) → ds.length ≤ sizeLine → Dats S F xs ds → Dat S F (.ref a) (.lst ds)
  | scr {a : Addr} {ns : List Int} : SqL S.K F a (ns.map V.int) → ns.length ≤ sizeLine → Dat S F (.ref a) (.scr ns)
  | dic {a : Addr} {kv : List (Key × V)} {kd : List (Key × D)} : Rd F a (.dK kv) → kv.map (·.1) = kd.map (·.1) → kd.length ≤ sizeLine → Dats S F (kv.map (·.2)) (kd.map (·.2)) → Dat S F (.ref a) (.dic kd)
  | dit {a : Addr} {kv : List (List Key × V)} {kd : List (List Key × D)} : Rd F a (.dT kv) → kv.map (·.1) = kd.map (·.1) → kd.length ≤ sizeLine → Dats S F (kv.map (·.2)) (kd.map (·.2)) → Dat S F (.ref a) (.dit kd)
  | obj {a C dx : Addr} {c : Str} {kv : List (Str × V)} {kd : List (Str × D)} : S.T c = some C → F a = some (.ins C dx kv) → kv.map (·.1) = kd.map (·.1) → Dats S F (kv.map (·.2)) (kd.map (·.2)) → Dat S F (.ref a) (.obj c kd)
  | exn0 {a C : Addr} {c : Str} : S.T c = some C → ExO F a C none → Dat S F (.ref a) (.exn c [])
  | exn1 {a C dx : Addr} {c f : Str} {v : V} {z : D} : S.T c = some C → ExO F a C (some dx) → ExF F dx [(f, v)] → Dats S F [v] [z] → Dat S F (.ref a) (.exn c [(f, z)])
inductive Dats (S : Sg) (F : Hp) : List V → List D → Prop
  | nil : Dats S F [] []
  | cons {v : V} {vs : List V} {d : D} {ds : List D} : Dat S F v d → Dats S F vs ds → Dats S F (v :: vs) (d :: ds)
end

section
variable {S : Sg} {F F' F'' H H' : Hp} {K : PySem.W.Frag} {a : Addr} {v : V} {d : D}
theorem Same.rd {u : HO} (e : Same F F') (h : Rd F a u) : Rd F' a u := by
  rcases h with h | ⟨o, h⟩
  · exact .inl (e _ _ h)
  · exact .inr ⟨o, e _ _ h⟩
theorem Same.seqT {xs : List V} (e : Same F F') (h : SqT K F a xs) : SqT K F' a xs := by
  rcases h with h | h
  · exact .inl (Same.rd e h)
  · exact .inr h
mutual
theorem Dat.mono (e : Same F F') : ∀ {v : V} {d : D}, Dat S F v d → Dat S F' v d
  | _, _, .non => .non
  | _, _, .bl b => .bl b
  | _, _, .int i => .int i
  | _, _, .str h => .str h
  | _, _, .tup h l ds => .tup (Same.seqT e h) l (Dats.mono e ds)
  | _, _, .lst h l ds => .lst (Same.rd e h) l (Dats.mono e ds)
  | _, _, .scr h l => .scr (L2.Same.seq e h) l
  | _, _, .dic h n l ds => .dic (Same.rd e h) n l (Dats.mono e ds)
  | _, _, .dit h n l ds => .dit (Same.rd e h) n l (Dats.mono e ds)
  | _, _, .obj c h n ds => .obj c (e _ _ h) n (Dats.mono e ds)
  | _, _, .exn0 c h => .exn0 c (h.mono e)
  | _, _, .exn1 c h h2 ds => .exn1 c (h.mono e) (h2.mono e) (Dats.mono e ds)
theorem Dats.mono (e : Same F F') : ∀ {vs : List V} {ds : List D}, Dats S F vs ds → Dats S F' vs ds
  | _, _, .nil => .nil
  | _, _, .cons h t => .cons (Dat.mono e h) (Dats.mono e t)
end
theorem Dats.length : ∀ {vs : List V} {ds : List D}, Dats S F vs ds → vs.length = ds.length
  | _, _, .nil => rfl
  | _, _, .cons _ t => congrArg (· + 1) (Dats.length t)
theorem Dats.get : ∀ {vs : List V} {ds : List D} {i : Nat} {d : D}, Dats S F vs ds → ds[i]? = some d → ∃ v, vs[i]? = some v ∧ Dat S F v d
  | _, _, _, _, .nil, h => by simp at h
  | _, _, 0, _, .cons h _, e => by simp at e; subst e; exact ⟨_, rfl, h⟩
  | _, _, i + 1, d, .cons _ t, e => by
    obtain ⟨v, h1, h2⟩ := Dats.get (i := i) (d := d) t (by simpa using e)
    exact ⟨v, by simpa using h1, h2⟩
theorem Dats.getV : ∀ {vs : List V} {ds : List D} {i : Nat} {v : V}, Dats S F vs ds → vs[i]? = some v → ∃ d, ds[i]? = some d ∧ Dat S F v d
  | _, _, _, _, .nil, h => by simp at h
  | _, _, 0, _, .cons h _, e => by simp at e; subst e; exact ⟨_, rfl, h⟩
  | _, _, i + 1, d, .cons _ t, e => by
    obtain ⟨v, h1, h2⟩ := Dats.getV (i := i) (v := d) t (by simpa using e)
    exact ⟨v, by simpa using h1, h2⟩
theorem Dats.append : ∀ {xs ys : List V} {ds es : List D}, Dats S F xs ds → Dats S F ys es → Dats S F (xs ++ ys) (ds ++ es)
  | _, _, _, _, .nil, s => s
  | _, _, _, _, .cons r t, s => .cons r (Dats.append t s)
theorem Dats.take : ∀ {xs : List V} {ds : List D} (n : Nat), Dats S F xs ds → Dats S F (xs.take n) (ds.take n)
  | _, _, 0, _ => .nil
  | _, _, _ + 1, .nil => .nil
  | _, _, n + 1, .cons r t => .cons r (Dats.take n t)
theorem Dats.drop : ∀ {xs : List V} {ds : List D} (n : Nat), Dats S F xs ds → Dats S F (xs.drop n) (ds.drop n)
  | _, _, 0, r => r
  | _, _, _ + 1, .nil => .nil
  | _, _, n + 1, .cons _ t => Dats.drop n t
theorem Dats.set {v : V} {d : D} (r : Dat S F v d) : ∀ {xs : List V} {ds : List D} (i : Nat), Dats S F xs ds → Dats S F (xs.set i v) (ds.set i d)
  | _, _, _, .nil => .nil
  | _, _, 0, .cons _ t => .cons r t
  | _, _, i + 1, .cons q t => .cons q (Dats.set r i t)
theorem Dats.one (h : Dat S F v d) : Dats S F [v] [d] := .cons h .nil
theorem Dats.ints : ∀ ns : List Int, Dats S F (ns.map V.int) (ns.map D.int)
  | [] => .nil
  | n :: r => .cons (.int n) (Dats.ints r)

/-- what an owned object at a holds; its members stand in F -/
def Own (S : Sg) (F H : Hp) (a : Addr) : D → Prop
  | .lst ds => ∃ xs, H a = some (.lst xs) ∧ Dats S F xs ds ∧ ds.length ≤ sizeLine
  | .dic kd => ∃ kv : List (Key × V), H a = some (.dK kv) ∧ kv.map (·.1) = kd.map (·.1) ∧ kd.length ≤ sizeLine ∧ Dats S F (kv.map (·.2)) (kd.map (·.2))
  | .dit kd => ∃ kv : List (List Key × V), H a = some (.dT kv) ∧ kv.map (·.1) = kd.map (·.1) ∧ kd.length ≤ sizeLine ∧ Dats S F (kv.map (·.2)) (kd.map (·.2))
  | .obj c kd => ∃ (C dx : Addr) (kv : List (Str × V)), H a = some (.ins C dx kv) ∧ S.T c = some C ∧ kv.map (·.1) = kd.map (·.1) ∧ Dats S F (kv.map (·.2)) (kd.map (·.2))
  | _ => False
theorem Own.mono (e : Same F F') (eh : ∀ o, H a = some o → H' a = some o) (h : Own S F H a d) : Own S F' H' a d := by
  cases d with
  | lst ds => obtain ⟨xs, h1, h2, h3⟩ := h; exact ⟨xs, eh _ h1, h2.mono e, h3⟩
  | dic kd => obtain ⟨kv, h1, h2, h3, h4⟩ := h; exact ⟨kv, eh _ h1, h2, h3, h4.mono e⟩
  | dit kd => obtain ⟨kv, h1, h2, h3, h4⟩ := h; exact ⟨kv, eh _ h1, h2, h3, h4.mono e⟩
  | obj c kd => obtain ⟨C, dx, kv, h1, h2, h3, h4⟩ := h; exact ⟨C, dx, kv, eh _ h1, h2, h3, h4.mono e⟩
  | _ => exact h.elim
theorem Own.there (h : Own S F H a d) : ∃ o, H a = some o := by
  cases d with
  | lst ds => obtain ⟨xs, h1, _⟩ := h; exact ⟨_, h1⟩
  | dic kd => obtain ⟨kv, h1, _⟩ := h; exact ⟨_, h1⟩
  | dit kd => obtain ⟨kv, h1, _⟩ := h; exact ⟨_, h1⟩
  | obj c kd => obtain ⟨C, dx, kv, h1, _⟩ := h; exact ⟨_, h1⟩
  | _ => exact h.elim
/-- a value that is read now: shared, or the root of an owned object -/
def DatR (S : Sg) (F H : Hp) (v : V) (d : D) : Prop := Dat S F v d ∨ ∃ a, v = .ref a ∧ Own S F H a d
theorem DatR.mono (e : Same F F') (eh : Same H H') (h : DatR S F H v d) : DatR S F' H' v d := by
  rcases h with h | ⟨a, e1, h⟩
  · exact .inl (h.mono e)
  · exact .inr ⟨a, e1, h.mono e fun o q => eh _ _ q⟩
end

/-! ### slots -/
inductive Sl where
  | no | fz (d : D) | ow (m : Bool) (d : D)
abbrev En := List Sl
/-- the frame of reference: what stood ahead of the def but what it may change; where its arguments that it may change stand -/
structure Bx where
  B : Hp
  ma : Nat → Addr

structure Rel (S : Sg) (c : Bx) (F H : Hp) (σ : St) (e : En) : Prop where
  bh : Same c.B H
  fh : Same F H
  len : σ.length = e.length
  fz : ∀ {i : Nat} {d : D}, e[i]? = some (.fz d) → ∃ v, σ[i]? = some (some v) ∧ Dat S F v d
  ow : ∀ {i : Nat} {m : Bool} {d : D}, e[i]? = some (.ow m d) → ∃ a, σ[i]? = some (some (.ref a)) ∧ F a = none ∧ c.B a = none ∧ Own S F H a d ∧ (m = true → a = c.ma i)
  dis : ∀ {i j : Nat} {m m' : Bool} {d d' : D} {a : Addr}, e[i]? = some (.ow m d) → e[j]? = some (.ow m' d') → σ[i]? = some (some (.ref a)) → σ[j]? = some (some (.ref a)) → i = j

/-- what is shared grows, by nothing of the ground -/
def Gr (c : Bx) (F F' : Hp) : Prop := Same F F' ∧ ∀ a, F a = none → F' a ≠ none → c.B a = none
theorem Gr.refl {c : Bx} {F : Hp} : Gr c F F := ⟨Same.refl _, fun _ h n => absurd h n⟩
theorem Gr.trans {c : Bx} {F F' F'' : Hp} (a : Gr c F F') (b : Gr c F' F'') : Gr c F F'' := ⟨a.1.trans b.1, fun x h n => by
  by_cases q : F' x = none
  · exact b.2 x q n
  · exact a.2 x h q⟩
/-- new objects alone -/
structure Ext (F H F' H' : Hp) : Prop where
  ff : Same F F'
  hh : Same H H'
  fh : Same F' H'
  nw : ∀ a, F a = none → F' a ≠ none → H a = none
theorem Ext.refl {F H : Hp} (h : Same F H) : Ext F H F H := ⟨Same.refl _, Same.refl _, h, fun _ h n => absurd h n⟩
theorem Ext.trans {F H F1 H1 F2 H2 : Hp} (a : Ext F H F1 H1) (b : Ext F1 H1 F2 H2) : Ext F H F2 H2 := ⟨a.ff.trans b.ff, a.hh.trans b.hh, b.fh, fun x h n => by
  by_cases q : F1 x = none
  · have z := b.nw x q n
    cases e : H x with
    | none => rfl
    | some o => rw [a.hh x o e] at z; cases z
  · exact a.nw x h q⟩
theorem same_new {H : Hp} {p : Addr} {o : HO} (h : H p = none) : Same H (upd H p o) := fun b x e => by
  rw [upd_ne (ne_of_none e h)]
  exact e
theorem Same.upd2 {F H : Hp} (h : Same F H) (p : Addr) (o : HO) : Same (upd F p o) (upd H p o) := fun b x e => by
  by_cases q : b = p
  · subst q; rw [upd_same] at e ⊢; exact e
  · rw [upd_ne q] at e ⊢; exact h _ _ e
/-- a new object, shared at once -/
theorem Ext.new {F H : Hp} (h : Same F H) {p : Addr} {o : HO} (hp : H p = none) : Ext F H (upd F p o) (upd H p o) :=
  ⟨same_new (Same.free h hp), same_new hp, Same.upd2 h p o, fun a h1 h2 => by
    by_cases q : a = p
    · rw [q]; exact hp
    · rw [upd_ne q] at h2; exact absurd h1 h2⟩
/-- a new object, not shared -/
theorem Ext.newO {F H : Hp} (h : Same F H) {p : Addr} {o : HO} (hp : H p = none) : Ext F H F (upd H p o) :=
  ⟨Same.refl _, same_new hp, h.trans (same_new hp), fun _ h n => absurd h n⟩
section
variable {S : Sg} {c : Bx} {F F' H H' : Hp} {σ : St} {e : En}
theorem Rel.ext (r : Rel S c F H σ e) (x : Ext F H F' H') : Rel S c F' H' σ e where
  bh := r.bh.trans x.hh
  fh := x.fh
  len := r.len
  fz := fun q => let ⟨v, h1, h2⟩ := r.fz q; ⟨v, h1, h2.mono x.ff⟩
  ow := fun q => by
    obtain ⟨a, h1, h2, h3, h4, h5⟩ := r.ow q
    refine ⟨a, h1, ?_, h3, h4.mono x.ff fun o z => x.hh _ _ z, h5⟩
    cases z : F' a with
    | none => rfl
    | some o =>
      obtain ⟨u, hu⟩ := h4.there
      have := x.nw a h2 (by rw [z]; exact fun w => nomatch w)
      rw [hu] at this
      cases this
  dis := r.dis
theorem Rel.gr (r : Rel S c F H σ e) (x : Ext F H F' H') : Gr c F F' := ⟨x.ff, fun a h n => by
  have z := x.nw a h n
  cases q : c.B a with
  | none => rfl
  | some o => rw [r.bh _ _ q] at z; cases z⟩
end

/-! ### programs of data -/
inductive R (α : Type) where
  | ok (a : α) (e : En)
  | ex (c : Str) (fs : List (Str × D)) (e : En)
  | bad
abbrev M (α : Type) := En → R α
@[reducible] def R.bind {α β : Type} (r : R α) (f : α → M β) : R β := match r with
  | .ok a e => f a e
  | .ex c fs e => .ex c fs e
  | .bad => .bad
def M.bind {α β : Type} (m : M α) (f : α → M β) : M β := fun e => (m e).bind f
def M.pure {α : Type} (a : α) : M α := fun e => .ok a e
instance : Monad M where
  pure := M.pure
  bind := M.bind
def lift {α : Type} (o : Option α) : M α := fun e => match o with
  | some a => .ok a e
  | none => .bad

/-- an exception behind the raise -/
def ExD (S : Sg) (F H : Hp) (cls : Value) (dd : Option Addr) (c : Str) (fs : List (Str × D)) : Prop :=
  ∃ C, S.T c = some C ∧ cls = .ref C ∧ ((fs = [] ∧ dd = none) ∨ ∃ (a : Addr) (f : Str) (v : V) (z : D), dd = some a ∧ fs = [(f, z)] ∧ F a = some (.xd [(f, v)]) ∧ Dats S F [v] [z])
/-- what is wanted of a result -/
def Okx {α : Type} (S : Sg) (c : Bx) (W : WX) (F : Hp) (r : R α) (k : α → En → Prop) : Prop := match r with
  | .ok a e => k a e
  | .ex n fs e => ∀ cls dd σ' F' H', Rel S c F' H' σ' e → Gr c F F' → ExD S F' H' cls dd n fs → W cls dd σ' H'
  | .bad => False
theorem Okx.bind {α β : Type} {S : Sg} {c : Bx} {W : WX} {F : Hp} {r : R α} {f : α → M β} {k : β → En → Prop} (h : Okx S c W F (r.bind f) k) : Okx S c W F r fun a e => Okx S c W F (f a e) k := by
  cases r with
  | ok a e => exact h
  | ex n fs e => exact h
  | bad => exact h
theorem Okx.imp {α : Type} {S : Sg} {c : Bx} {W : WX} {F : Hp} {r : R α} {k k' : α → En → Prop} (h : Okx S c W F r k) (i : ∀ a e, k a e → k' a e) : Okx S c W F r k' := by
  cases r with
  | ok a e => exact i _ _ h
  | ex n fs e => exact h
  | bad => exact h
theorem Okx.gr {α : Type} {S : Sg} {c : Bx} {W : WX} {F F' : Hp} {r : R α} {k k' : α → En → Prop} (h : Okx S c W F r k) (g : Gr c F F') (i : ∀ a e, k a e → k' a e) : Okx S c W F' r k' := by
  cases r with
  | ok a e => exact i _ _ h
  | ex n fs e => exact fun cls dd σ' F2 H' r g' => h cls dd σ' F2 H' r (g.trans g')
  | bad => exact h

/-- an operand: data, or a slot that owns -/
inductive Op where
  | va (d : D) | pl (i : Nat)
def OpD (S : Sg) (F : Hp) (σ : St) (v : V) : Op → Prop
  | .va d => Dat S F v d
  | .pl i => σ[i]? = some (some v)
theorem OpD.mono {S : Sg} {F F' : Hp} {σ : St} {v : V} {o : Op} (h : OpD S F σ v o) (e : Same F F') : OpD S F' σ v o := by
  cases o with
  | va d => exact Dat.mono e h
  | pl i => exact h
/-- what an operand holds now -/
def look (e : En) : Op → Option D
  | .va d => some d
  | .pl i => match e[i]? with
    | some (.ow _ d) => some d
    | some (.fz d) => some d
    | _ => none
def get (o : Op) : M D := fun e => match look e o with
  | some d => .ok d e
  | none => .bad
theorem look_ok {S : Sg} {c : Bx} {F H : Hp} {σ : St} {e : En} {v : V} {o : Op} {d : D} (r : Rel S c F H σ e) (h : OpD S F σ v o) (q : look e o = some d) : DatR S F H v d := by
  cases o with
  | va d' =>
    have q' : some d' = some d := q
    cases q'
    exact .inl h
  | pl i =>
    have h' : σ[i]? = some (some v) := h
    unfold look at q
    cases z : e[i]? with
    | none => simp only [z] at q; cases q
    | some s =>
      simp only [z] at q
      cases s with
      | no => cases q
      | fz d' =>
        cases q
        obtain ⟨w, h1, h2⟩ := r.fz z
        rw [h'] at h1
        cases h1
        exact .inl h2
      | ow m d' =>
        cases q
        obtain ⟨a, h1, h2, h3, h4, _⟩ := r.ow z
        rw [h'] at h1
        cases h1
        exact .inr ⟨a, rfl, h4⟩
end DP
set_option Elab.async false
set_option linter.all false
set_option maxRecDepth 100000
set_option maxHeartbeats 2000000
/-! DP2: judgements of expressions by programs of data. -/
namespace DP
open PySem PySem.Spec L2
open PyProof.Rows hiding St

def sgOf (K : PySem.W.Frag) (mg : Str → Option Value) : Sg := ⟨K, fun n => match mg n with
  | some (.ref C) => some C
  | _ => none⟩
abbrev Sx (X : Cx) : Sg := sgOf X.K X.mg

theorem PE.imp {X : Cx} {e : Expr} {t t' : TE} (h : PE X e t) (i : ∀ σ H Q, t' σ H Q → t σ H Q) : PE X e t' := ⟨fun pins s σ H Q I q => h.run pins s σ H Q I (i _ _ _ q)⟩
theorem PT.imp {X : Cx} {e : Expr} {t t' : TT} (h : PT X e t) (i : ∀ σ H Q, t' σ H Q → t σ H Q) : PT X e t' := ⟨fun pins s σ H Q I q => h.run pins s σ H Q I (i _ _ _ q)⟩
theorem PA.imp {X : Cx} {es : List Expr} {t t' : TA} (h : PA X es t) (i : ∀ σ H Q, t' σ H Q → t σ H Q) : PA X es t' := ⟨fun pos pins s σ H Q I q => h.run pos pins s σ H Q I (i _ _ _ q)⟩
theorem PSs.imp {X : Cx} {ss : List Stmt} {t t' : TS} (h : PSs X ss t) (i : ∀ G σ H, t' G σ H → t G σ H) : PSs X ss t' := ⟨fun pins s σ H G I q => h.run pins s σ H G I (i _ _ _ q)⟩
theorem PS.imp {X : Cx} {ss : Stmt} {t t' : TS} (h : PS X ss t) (i : ∀ G σ H, t' G σ H → t G σ H) : PS X ss t' := ⟨fun pins s σ H G I q => h.run pins s σ H G I (i _ _ _ q)⟩

section
variable (S : Sg) (c : Bx) (W : WX)
/-- an operand -/
def tO (m : M Op) : TE := fun σ H Q => ∃ F e, Rel S c F H σ e ∧ Okx S c W F (m e) fun o e' => ∀ v F' H', Rel S c F' H' σ e' → Gr c F F' → OpD S F' σ v o → Q v H'
/-- a value -/
def tX (m : M D) : TE := fun σ H Q => ∃ F e, Rel S c F H σ e ∧ Okx S c W F (m e) fun d e' => ∀ v F' H', Rel S c F' H' σ e' → Gr c F F' → Dat S F' v d → Q v H'
/-- a new object, not shared yet -/
def tN (m : M D) : TE := fun σ H Q => ∃ F e, Rel S c F H σ e ∧ Okx S c W F (m e) fun d e' => ∀ p F' H' H0, Rel S c F' H0 σ e' → Gr c F F' → H0 p = none → Same H0 H' → Same F' H' → Own S F' H' p d → Q (.ref p) H'
/-- arguments -/
def tAs (m : M (List Op)) : TA := fun σ H Q => ∃ F e, Rel S c F H σ e ∧ Okx S c W F (m e) fun os e' => ∀ vs F' H', Rel S c F' H' σ e' → Gr c F F' → Paired (fun v o => OpD S F' σ v o) vs os → Q vs H'
/-- a test -/
def tT (m : M Bool) : TT := fun σ H Q => ∃ F e, Rel S c F H σ e ∧ Okx S c W F (m e) fun b e' => ∀ F' H', Rel S c F' H' σ e' → Gr c F F' → Q b H'
end

structure PX (X : Cx) (e : Expr) (m : M D) : Prop where
  run : ∀ c W, Takes X W → PE X e (tX (Sx X) c W m)
structure PY (X : Cx) (e : Expr) (m : M Op) : Prop where
  run : ∀ c W, Takes X W → PE X e (tO (Sx X) c W m)
structure PN (X : Cx) (e : Expr) (m : M D) : Prop where
  run : ∀ c W, Takes X W → PE X e (tN (Sx X) c W m)
structure PAr (X : Cx) (es : List Expr) (m : M (List Op)) : Prop where
  run : ∀ c W, Takes X W → PA X es (tAs (Sx X) c W m)
structure PB (X : Cx) (e : Expr) (m : M Bool) : Prop where
  run : ∀ c W, Takes X W → PT X e (tT (Sx X) c W m)

/-! ### an operation of data -/
def rD (S : Sg) (f : D → D → Option D) : R2 := fun x y H Q => ∃ F a b d, Same F H ∧ DatR S F H x a ∧ DatR S F H y b ∧ f a b = some d ∧ ∀ v F' H', Ext F H F' H' → Dat S F' v d → Q v H'
def rDs (S : Sg) (f : List D → Option D) : List V → Hp → VK → Prop := fun xs H Q => ∃ F ds d, Same F H ∧ Paired (fun v a => DatR S F H v a) xs ds ∧ f ds = some d ∧ ∀ v F' H', Ext F H F' H' → Dat S F' v d → Q v H'
/-- .. whose answer is a new object -/
def rDN (S : Sg) (f : D → D → Option D) : R2 := fun x y H Q => ∃ F a b d, Same F H ∧ DatR S F H x a ∧ DatR S F H y b ∧ f a b = some d ∧ ∀ p H', H p = none → Same H H' → Own S F H' p d → Q (.ref p) H'
def rDsN (S : Sg) (f : List D → Option D) : List V → Hp → VK → Prop := fun xs H Q => ∃ F ds d, Same F H ∧ Paired (fun v a => DatR S F H v a) xs ds ∧ f ds = some d ∧ ∀ p H', H p = none → Same H H' → Own S F H' p d → Q (.ref p) H'
def orD (f g : D → D → Option D) : D → D → Option D := fun a b => match f a b with
  | some d => some d
  | none => g a b
def orDs (f g : List D → Option D) : List D → Option D := fun a => match f a with
  | some d => some d
  | none => g a
theorem OpR.orD {X : Cx} {op : Value → Value → Sem Value} {f g : D → D → Option D} (h : OpR X op (rD (Sx X) f)) (h' : OpR X op (rD (Sx X) g)) : OpR X op (rD (Sx X) (orD f g)) := by
  intro pins s σ H x y v u Q I rx ry ⟨F, a, b, d, fh, da, db, e, q⟩
  unfold DP.orD at e
  cases z : f a b with
  | some d' =>
    simp only [z] at e
    cases e
    exact h pins s σ H x y v u Q I rx ry ⟨F, a, b, d, fh, da, db, z, q⟩
  | none =>
    simp only [z] at e
    exact h' pins s σ H x y v u Q I rx ry ⟨F, a, b, d, fh, da, db, e, q⟩
theorem CallR.orDs {X : Cx} {op : Value} {f g : List D → Option D} (h : CallR X op (rDs (Sx X) f)) (h' : CallR X op (rDs (Sx X) g)) : CallR X op (rDs (Sx X) (orDs f g)) := by
  intro pins s σ H xs us Q I rx ⟨F, a, d, fh, da, e, q⟩
  unfold DP.orDs at e
  cases z : f a with
  | some d' =>
    simp only [z] at e
    cases e
    exact h pins s σ H xs us Q I rx ⟨F, a, d, fh, da, z, q⟩
  | none =>
    simp only [z] at e
    exact h' pins s σ H xs us Q I rx ⟨F, a, d, fh, da, e, q⟩
theorem OpR.imp {X : Cx} {op : Value → Value → Sem Value} {r r' : R2} (h : OpR X op r) (i : ∀ x y H Q, r' x y H Q → r x y H Q) : OpR X op r' := fun pins s σ H x y v u Q I rx ry q => h pins s σ H x y v u Q I rx ry (i _ _ _ _ q)
theorem CallR.imp {X : Cx} {f : Value} {r r' : List V → Hp → VK → Prop} (h : CallR X f r) (i : ∀ xs H Q, r' xs H Q → r xs H Q) : CallR X f r' := fun pins s σ H xs us Q I rx q => h pins s σ H xs us Q I rx (i _ _ _ q)
theorem IxR.imp {X : Cx} {r r' : R2} (h : IxR X r) (i : ∀ x y H Q, r' x y H Q → r x y H Q) : IxR X r' := fun value slice pins s σ H x y v u Q I rx ry q => h value slice pins s σ H x y v u Q I rx ry (i _ _ _ _ q)

/-! ### combinators -/
def eVar (i : Nat) : M D := fun e => match e[i]? with
  | some (.fz d) => .ok d e
  | _ => .bad
def oVar (i : Nat) : M Op := fun e => match e[i]? with
  | some (.fz d) => .ok (.va d) e
  | some (.ow _ _) => .ok (.pl i) e
  | _ => .bad
def oVa (m : M D) : M Op := fun e => (m e).bind fun d e => .ok (.va d) e
def eGet (m : M Op) : M D := fun e => (m e).bind fun o => get o
def eCst (d : D) : M D := fun e => .ok d e
def eOp (f : D → D → Option D) (ma mb : M Op) : M D := fun e => (ma e).bind fun x e => (mb e).bind fun y e => match look e x, look e y with
  | some a, some b => match f a b with
    | some d => .ok d e
    | none => .bad
  | _, _ => .bad
def looks (e : En) : List Op → Option (List D)
  | [] => some []
  | o :: os => match look e o, looks e os with
    | some d, some ds => some (d :: ds)
    | _, _ => none
def aNil : M (List Op) := fun e => .ok [] e
def aCons (m : M Op) (r : M (List Op)) : M (List Op) := fun e => (m e).bind fun o e => (r e).bind fun os e => .ok (o :: os) e
def eBi (f : List D → Option D) (m : M (List Op)) : M D := fun e => (m e).bind fun os e => match looks e os with
  | some ds => match f ds with
    | some d => .ok d e
    | none => .bad
  | none => .bad
def vas : List Op → Option (List D)
  | [] => some []
  | .va d :: os => match vas os with
    | some ds => some (d :: ds)
    | none => none
  | _ :: _ => none
def eTup (m : M (List Op)) : M D := fun e => (m e).bind fun os e => match vas os with
  | some ds => if ds.length ≤ sizeLine then .ok (.tup ds) e else .bad
  | none => .bad
def nLst (m : M (List Op)) : M D := fun e => (m e).bind fun os e => match vas os with
  | some ds => if ds.length ≤ sizeLine then .ok (.lst ds) e else .bad
  | none => .bad

section
variable {X : Cx} {a b : Expr} {pos : Pos}
theorem px_var (i : Nat) {x : Str} (hN : X.N[i]? = some x := by rfl) (hv : Vis X.env.scope x := by first | exact Or.inl rfl | exact Or.inr (Or.inl rfl) | exact Or.inr (Or.inr rfl)) (hd : (x == ("__debug__" : Str)) = false := by decide)
    (hcd : (x == ("__classdict__" : Str)) = false := by decide) : PX X (.Name x pos) (eVar i) := by
  refine ⟨fun c W tk => PE.imp (pe_var (i := i) hN hv hd hcd) fun σ H Q ⟨F, e, r, k⟩ => ?_⟩
  unfold eVar at k
  cases z : e[i]? with
  | none => simp only [z] at k; exact k.elim
  | some s =>
    simp only [z] at k
    cases s with
    | fz d =>
      obtain ⟨v, h1, h2⟩ := r.fz z
      exact ⟨v, h1, k v F H r Gr.refl h2⟩
    | _ => exact k.elim
theorem py_var (i : Nat) {x : Str} (hN : X.N[i]? = some x := by rfl) (hv : Vis X.env.scope x := by first | exact Or.inl rfl | exact Or.inr (Or.inl rfl) | exact Or.inr (Or.inr rfl)) (hd : (x == ("__debug__" : Str)) = false := by decide)
    (hcd : (x == ("__classdict__" : Str)) = false := by decide) : PY X (.Name x pos) (oVar i) := by
  refine ⟨fun c W tk => PE.imp (pe_var (i := i) hN hv hd hcd) fun σ H Q ⟨F, e, r, k⟩ => ?_⟩
  unfold oVar at k
  cases z : e[i]? with
  | none => simp only [z] at k; exact k.elim
  | some s =>
    simp only [z] at k
    cases s with
    | fz d =>
      obtain ⟨v, h1, h2⟩ := r.fz z
      exact ⟨v, h1, k v F H r Gr.refl h2⟩
    | ow m d =>
      obtain ⟨v, h1, h2⟩ := r.ow z
      exact ⟨_, h1, k _ F H r Gr.refl h1⟩
    | no => exact k.elim
/-- a value as an operand -/
theorem py_of {m : M D} (h : PX X a m) : PY X a (oVa m) := by
  refine ⟨fun c W tk => PE.imp (h.run c W tk) fun σ H Q ⟨F, e, r, k⟩ => ⟨F, e, r, ?_⟩⟩
  have k' := Okx.bind (r := m e) (f := fun d e => R.ok (Op.va d) e) k
  exact Okx.imp k' fun d e1 q => q
theorem px_cst {e : Expr} {v : V} {d : D} (he : PE X e (tC v)) (hd : ∀ F, Dat (Sx X) F v d) : PX X e (eCst d) := by
  refine ⟨fun c W tk => PE.imp he fun σ H Q ⟨F, e, r, k⟩ => ?_⟩
  exact k v F H r Gr.refl (hd F)
theorem px_int {i : Int} {j : Nat} : PX X (.Constant (.int i) j pos) (eCst (.int i)) := px_cst pe_int fun F => .int i
theorem px_bl {i : Bool} {j : Nat} : PX X (.Constant (.bool i) j pos) (eCst (.bl i)) := px_cst pe_bl fun F => .bl i
theorem px_non {j : Nat} : PX X (.Constant .none j pos) (eCst .non) := px_cst pe_non fun F => .non
theorem px_str {x : Str} {j : Nat} (h : sOk x := by exact ⟨by decide +kernel, by decide +kernel⟩) : PX X (.Constant (.str x) j pos) (eCst (.str x)) := px_cst pe_str fun F => .str h

/-- the heart of a two-place rule -/
theorem op_end {c : Bx} {W : WX} {S : Sg} {σ : L2.St} {F F0 H : Hp} {e : En} {x y : Op} {vx vy : V} {f : D → D → Option D} {k : D → En → Prop} (r : Rel S c F H σ e) (hx : OpD S F σ vx x) (hy : OpD S F σ vy y)
    (h : Okx S c W F0 (match look e x, look e y with
      | some a, some b => match f a b with
        | some d => R.ok d e
        | none => R.bad
      | _, _ => R.bad) k) : ∃ a b d, DatR S F H vx a ∧ DatR S F H vy b ∧ f a b = some d ∧ k d e := by
  cases z1 : look e x with
  | none => simp only [z1] at h; exact h.elim
  | some a =>
    cases z2 : look e y with
    | none => simp only [z1, z2] at h; exact h.elim
    | some b =>
      simp only [z1, z2] at h
      cases z3 : f a b with
      | none => simp only [z3] at h; exact h.elim
      | some d =>
        simp only [z3] at h
        exact ⟨a, b, d, look_ok r hx z1, look_ok r hy z2, z3, h⟩
theorem op_tO {f : D → D → Option D} {ma mb : M Op} {r : R2} {c : Bx} {W : WX} {S : Sg} {σ : L2.St} {H : Hp} {Q : VK} (hr : ∀ x y H Q, rD S f x y H Q → r x y H Q) (h : tX S c W (eOp f ma mb) σ H Q) : tOp r (tO S c W ma) (tO S c W mb) σ H Q := by
  obtain ⟨F, e, r0, k⟩ := h
  refine ⟨F, e, r0, Okx.imp (Okx.bind k) fun x e1 k1 v F1 H1 r1 g1 o1 => ⟨F1, e1, r1, Okx.gr (Okx.bind k1) g1 fun y e2 k2 w F2 H2 r2 g2 o2 => ?_⟩⟩
  obtain ⟨a, b, d, da, db, e3, q⟩ := op_end r2 (o1.mono g2.1) o2 k2
  exact hr _ _ _ _ ⟨F2, a, b, d, r2.fh, da, db, e3, fun v F' H' x dv => q v F' H' (r2.ext x) ((g1.trans g2).trans (r2.gr x)) dv⟩
theorem op_tON {f : D → D → Option D} {ma mb : M Op} {r : R2} {c : Bx} {W : WX} {S : Sg} {σ : L2.St} {H : Hp} {Q : VK} (hr : ∀ x y H Q, rDN S f x y H Q → r x y H Q) (h : tN S c W (eOp f ma mb) σ H Q) : tOp r (tO S c W ma) (tO S c W mb) σ H Q := by
  obtain ⟨F, e, r0, k⟩ := h
  refine ⟨F, e, r0, Okx.imp (Okx.bind k) fun x e1 k1 v F1 H1 r1 g1 o1 => ⟨F1, e1, r1, Okx.gr (Okx.bind k1) g1 fun y e2 k2 w F2 H2 r2 g2 o2 => ?_⟩⟩
  obtain ⟨a, b, d, da, db, e3, q⟩ := op_end r2 (o1.mono g2.1) o2 k2
  exact hr _ _ _ _ ⟨F2, a, b, d, r2.fh, da, db, e3, fun p H' hp hh ow => q p F2 H' H2 r2 (g1.trans g2) hp hh (r2.fh.trans hh) ow⟩
theorem px_op {op : Operator} {f : D → D → Option D} {ma mb : M Op} (ho : OpR X (binaryOp op) (rD (Sx X) f)) (ha : PY X a ma) (hb : PY X b mb) : PX X (.BinOp a op b pos) (eOp f ma mb) :=
  ⟨fun c W tk => PE.imp (pe_op ho (ha.run c W tk) (hb.run c W tk)) fun _ _ _ h => op_tO (fun _ _ _ _ z => z) h⟩
theorem pn_op {op : Operator} {f : D → D → Option D} {ma mb : M Op} (ho : OpR X (binaryOp op) (rDN (Sx X) f)) (ha : PY X a ma) (hb : PY X b mb) : PN X (.BinOp a op b pos) (eOp f ma mb) :=
  ⟨fun c W tk => PE.imp (pe_op ho (ha.run c W tk) (hb.run c W tk)) fun _ _ _ h => op_tON (fun _ _ _ _ z => z) h⟩
theorem px_cmp {op : CmpOp} {f : D → D → Option D} {ma mb : M Op} (ho : OpR X (compareOp op) (rD (Sx X) f)) (ha : PY X a ma) (hb : PY X b mb) (hm : behindInMarks op b = false) : PX X (.Compare a [op] [b] pos) (eOp f ma mb) :=
  ⟨fun c W tk => PE.imp (pe_cmpR ho (ha.run c W tk) (hb.run c W tk) hm) fun _ _ _ h => op_tO (fun _ _ _ _ z => z) h⟩
theorem px_ix {f : D → D → Option D} {ma mb : M Op} (ho : IxR X (rD (Sx X) f)) (ha : PY X a ma) (hb : PY X b mb) (hs : PlainIx b := by exact fun _ _ => rfl) : PX X (.Subscript a b pos) (eOp f ma mb) :=
  ⟨fun c W tk => PE.imp (pe_ix ho (ha.run c W tk) (hb.run c W tk) hs) fun _ _ _ h => op_tO (fun _ _ _ _ z => z) h⟩

/-! arguments -/
theorem pr_nil : PAr X [] aNil := ⟨fun c W tk => PA.imp pa_nil fun σ H Q ⟨F, e, r, k⟩ => k [] F H r Gr.refl .nil⟩
theorem paired_mono {S : Sg} {F F' : Hp} {σ : L2.St} (g : Same F F') : ∀ {vs : List V} {os : List Op}, Paired (fun v o => OpD S F σ v o) vs os → Paired (fun v o => OpD S F' σ v o) vs os
  | _, _, .nil => .nil
  | _, _, .cons h t => .cons (h.mono g) (paired_mono g t)
theorem pr_cons {e : Expr} {es : List Expr} {m : M Op} {r : M (List Op)} (he : PY X e m) (hr : PAr X es r) (hs : starEach (e :: es) X.env = (false, eval e X.env) :: starEach es X.env := by rfl) : PAr X (e :: es) (aCons m r) := by
  refine ⟨fun c W tk => PA.imp (pa_cons (he.run c W tk) (hr.run c W tk) hs) fun σ H Q ⟨F, e, r0, k⟩ => ?_⟩
  refine ⟨F, e, r0, Okx.imp (Okx.bind k) fun x e1 k1 v F1 H1 r1 g1 o1 => ⟨F1, e1, r1, Okx.gr (Okx.bind k1) g1 fun y e2 k2 w F2 H2 r2 g2 o2 => ?_⟩⟩
  exact k2 (v :: w) F2 H2 r2 (g1.trans g2) (.cons (o1.mono g2.1) o2)
theorem looks_ok {S : Sg} {c : Bx} {F H : Hp} {σ : L2.St} {e : En} (r : Rel S c F H σ e) : ∀ {vs : List V} {os : List Op} {ds : List D}, Paired (fun v o => OpD S F σ v o) vs os → looks e os = some ds → Paired (fun v d => DatR S F H v d) vs ds
  | _, _, ds, .nil, q => by
    have q' : some [] = some ds := q
    cases q'
    exact .nil
  | _, o :: os, ds, .cons h t, q => by
    unfold looks at q
    cases z1 : look e o with
    | none => simp only [z1] at q; cases q
    | some d =>
      cases z2 : looks e os with
      | none => simp only [z1, z2] at q; cases q
      | some ds' =>
        simp only [z1, z2] at q
        cases q
        exact .cons (look_ok r h z1) (looks_ok r t z2)
theorem bi_end {c : Bx} {W : WX} {S : Sg} {σ : L2.St} {F F0 H : Hp} {e : En} {os : List Op} {vs : List V} {f : List D → Option D} {k : D → En → Prop} (r : Rel S c F H σ e) (hx : Paired (fun v o => OpD S F σ v o) vs os)
    (h : Okx S c W F0 (match looks e os with
      | some ds => match f ds with
        | some d => R.ok d e
        | none => R.bad
      | none => R.bad) k) : ∃ ds d, Paired (fun v d => DatR S F H v d) vs ds ∧ f ds = some d ∧ k d e := by
  cases z1 : looks e os with
  | none => simp only [z1] at h; exact h.elim
  | some ds =>
    simp only [z1] at h
    cases z3 : f ds with
    | none => simp only [z3] at h; exact h.elim
    | some d =>
      simp only [z3] at h
      exact ⟨ds, d, looks_ok r hx z1, z3, h⟩
theorem bi_tA {f : List D → Option D} {m : M (List Op)} {c : Bx} {W : WX} {S : Sg} {σ : L2.St} {H : Hp} {Q : VK} (h : tX S c W (eBi f m) σ H Q) : tCB (rDs S f) (tAs S c W m) σ H Q := by
  obtain ⟨F, e, r0, k⟩ := h
  refine ⟨F, e, r0, Okx.imp (Okx.bind k) fun x e1 k1 v F1 H1 r1 g1 o1 => ?_⟩
  obtain ⟨ds, d, da, e3, q⟩ := bi_end r1 o1 k1
  exact ⟨F1, ds, d, r1.fh, da, e3, fun v F' H' x dv => q v F' H' (r1.ext x) (g1.trans (r1.gr x)) dv⟩
theorem bi_tAN {f : List D → Option D} {m : M (List Op)} {c : Bx} {W : WX} {S : Sg} {σ : L2.St} {H : Hp} {Q : VK} (h : tN S c W (eBi f m) σ H Q) : tCB (rDsN S f) (tAs S c W m) σ H Q := by
  obtain ⟨F, e, r0, k⟩ := h
  refine ⟨F, e, r0, Okx.imp (Okx.bind k) fun x e1 k1 v F1 H1 r1 g1 o1 => ?_⟩
  obtain ⟨ds, d, da, e3, q⟩ := bi_end r1 o1 k1
  exact ⟨F1, ds, d, r1.fh, da, e3, fun p H' hp hh ow => q p F1 H' H1 r1 g1 hp hh (r1.fh.trans hh) ow⟩
variable {es : List Expr} {e : Expr} {x : Str} {p : Pos}
theorem px_bi {id : String} {f : List D → Option D} {m : M (List Op)} (hc : CallR X (.builtin id) (rDs (Sx X) f)) (hg : Gl X x) (hm : X.mg x = none) (hv : bootBuiltins x = some (.builtin id)) (ha : PAr X (e :: es) m) (hn : x ≠ "__name__" := by decide)
    (hdb : (x == ("__debug__" : Str)) = false := by decide)
    (he : starEach (e :: es) X.env = (false, eval e X.env) :: starEach es X.env := by rfl) (hpl : (backTo pos (starEach es X.env)).any (·.1) = false := by rfl) : PX X (.Call (.Name x p) (e :: es) [] pos) (eBi f m) :=
  ⟨fun c W tk => PE.imp (pe_callB hc hg hm hv (ha.run c W tk) hn hdb he hpl) fun _ _ _ h => bi_tA h⟩
theorem pn_bi {id : String} {f : List D → Option D} {m : M (List Op)} (hc : CallR X (.builtin id) (rDsN (Sx X) f)) (hg : Gl X x) (hm : X.mg x = none) (hv : bootBuiltins x = some (.builtin id)) (ha : PAr X (e :: es) m) (hn : x ≠ "__name__" := by decide)
    (hdb : (x == ("__debug__" : Str)) = false := by decide)
    (he : starEach (e :: es) X.env = (false, eval e X.env) :: starEach es X.env := by rfl) (hpl : (backTo pos (starEach es X.env)).any (·.1) = false := by rfl) : PN X (.Call (.Name x p) (e :: es) [] pos) (eBi f m) :=
  ⟨fun c W tk => PE.imp (pe_callB hc hg hm hv (ha.run c W tk) hn hdb he hpl) fun _ _ _ h => bi_tAN h⟩
theorem px_ty {id : String} {f : List D → Option D} {m : M (List Op)} (hc : CallR X (.type id) (rDs (Sx X) f)) (hg : Gl X x) (hm : X.mg x = none) (hv : bootBuiltins x = some (.type id)) (ha : PAr X (e :: es) m) (hn : x ≠ "__name__" := by decide)
    (hdb : (x == ("__debug__" : Str)) = false := by decide)
    (he : starEach (e :: es) X.env = (false, eval e X.env) :: starEach es X.env := by rfl) (hpl : (backTo pos (starEach es X.env)).any (·.1) = false := by rfl) : PX X (.Call (.Name x p) (e :: es) [] pos) (eBi f m) :=
  ⟨fun c W tk => PE.imp (pe_callTy hc hg hm hv (ha.run c W tk) hn hdb he hpl) fun _ _ _ h => bi_tA h⟩
theorem pn_ty {id : String} {f : List D → Option D} {m : M (List Op)} (hc : CallR X (.type id) (rDsN (Sx X) f)) (hg : Gl X x) (hm : X.mg x = none) (hv : bootBuiltins x = some (.type id)) (ha : PAr X (e :: es) m) (hn : x ≠ "__name__" := by decide)
    (hdb : (x == ("__debug__" : Str)) = false := by decide)
    (he : starEach (e :: es) X.env = (false, eval e X.env) :: starEach es X.env := by rfl) (hpl : (backTo pos (starEach es X.env)).any (·.1) = false := by rfl) : PN X (.Call (.Name x p) (e :: es) [] pos) (eBi f m) :=
  ⟨fun c W tk => PE.imp (pe_callTy hc hg hm hv (ha.run c W tk) hn hdb he hpl) fun _ _ _ h => bi_tAN h⟩
theorem vas_ok {S : Sg} {F : Hp} {σ : L2.St} : ∀ {vs : List V} {os : List Op} {ds : List D}, Paired (fun v o => OpD S F σ v o) vs os → vas os = some ds → Dats S F vs ds
  | _, _, ds, .nil, q => by
    have q' : some [] = some ds := q
    cases q'
    exact .nil
  | _, .va d :: os, ds, .cons h t, q => by
    unfold vas at q
    cases z : vas os with
    | none => simp only [z] at q; cases q
    | some ds' =>
      simp only [z] at q
      cases q
      exact .cons h (vas_ok t z)
  | _, .pl i :: os, ds, .cons h t, q => by
    unfold vas at q
    cases q
theorem px_tup {m : M (List Op)} {x1} (h : PAr X es m) : PX X (.Tuple es x1 pos) (eTup m) := by
  refine ⟨fun c W tk => PE.imp (pe_tup (h.run c W tk)) fun σ H Q ⟨F, e, r0, k⟩ => ?_⟩
  refine ⟨F, e, r0, Okx.imp (Okx.bind k) fun os e1 k1 vs F1 H1 r1 g1 o1 => ?_⟩
  cases z : vas os with
  | none => simp only [z] at k1; exact k1.elim
  | some ds =>
    simp only [z] at k1
    by_cases hl : ds.length ≤ sizeLine
    · rw [if_pos hl] at k1
      have dd := vas_ok o1 z
      refine ⟨by rw [dd.length]; exact hl, fun p hp => ?_⟩
      have x : Ext F1 H1 (upd F1 p (.tup vs)) (upd H1 p (.tup vs)) := Ext.new r1.fh hp
      exact k1 _ _ _ (r1.ext x) (g1.trans (r1.gr x)) (.tup (SqT.of upd_same) hl (dd.mono x.ff))
    · rw [if_neg hl] at k1
      exact k1.elim
theorem pn_lst {m : M (List Op)} (h : PAr X es m) : PN X (.List es pos) (nLst m) := by
  refine ⟨fun c W tk => PE.imp (pe_lst (h.run c W tk)) fun σ H Q ⟨F, e, r0, k⟩ => ?_⟩
  refine ⟨F, e, r0, Okx.imp (Okx.bind k) fun os e1 k1 vs F1 H1 r1 g1 o1 => ?_⟩
  cases z : vas os with
  | none => simp only [z] at k1; exact k1.elim
  | some ds =>
    simp only [z] at k1
    by_cases hl : ds.length ≤ sizeLine
    · rw [if_pos hl] at k1
      have dd := vas_ok o1 z
      refine ⟨by rw [dd.length]; exact hl, fun p hp => ?_⟩
      exact k1 p F1 _ H1 r1 g1 hp (same_new hp) (r1.fh.trans (same_new hp)) ⟨vs, upd_same, dd, hl⟩
    · rw [if_neg hl] at k1
      exact k1.elim
end
end DP
set_option Elab.async false
set_option linter.all false
set_option maxRecDepth 100000
set_option maxHeartbeats 2000000
/-! DP3: tests, statements, loops. -/
namespace DP
open PySem PySem.Spec L2
open PyProof.Rows hiding St

/-! ### tests -/
def bE (m : M D) : M Bool := fun e => (m e).bind fun d e => match d with
  | .bl b => .ok b e
  | _ => .bad
def bNot (m : M Bool) : M Bool := fun e => (m e).bind fun b e => .ok (!b) e
def bAnd (m n : M Bool) : M Bool := fun e => (m e).bind fun b e => if b = true then n e else .ok false e
def bOr (m n : M Bool) : M Bool := fun e => (m e).bind fun b e => if b = true then .ok true e else n e
def eB (m : M Bool) : M D := fun e => (m e).bind fun b e => .ok (.bl b) e
def eIf (t : M Bool) (m n : M D) : M D := fun e => (t e).bind fun b e => if b = true then m e else n e
section
variable {X : Cx} {a b : Expr} {pos : Pos}
theorem tT_of {S : Sg} {c : Bx} {W : WX} {σ : L2.St} {H : Hp} {Q : Bool → Hp → Prop} {m : M D} (h : tT S c W (bE m) σ H Q) : tX S c W m σ H fun x H' => ∃ k, x = .bl k ∧ Q k H' := by
  obtain ⟨F, e, r, k⟩ := h
  refine ⟨F, e, r, Okx.imp (Okx.bind k) fun d e1 k1 v F1 H1 r1 g1 dv => ?_⟩
  cases dv with
  | bl b => exact ⟨b, rfl, k1 F1 H1 r1 g1⟩
  | _ => exact k1.elim
/-- a value as a test -/
theorem pb_val {m : M D} (h : PX X a m) (he : ∀ whole, isTrue a X.env whole = (do let v ← whole; standAt a.pos; holding [v] (truthy v)) := by intro _; rfl) : PB X a (bE m) :=
  ⟨fun c W tk => PT.imp (pt_val (h.run c W tk) he) fun _ _ _ h => tT_of h⟩
/-- a comparison as a test -/
theorem pb_cmp {op : CmpOp} {f : D → D → Option D} {ma mb : M Op} (ho : OpR X (compareOp op) (rD (Sx X) f)) (ha : PY X a ma) (hb : PY X b mb) (hm : behindInMarks op b = false) : PB X (.Compare a [op] [b] pos) (bE (eOp f ma mb)) := by
  refine ⟨fun c W tk => PT.imp (pt_cmpR ho (ha.run c W tk) (hb.run c W tk) hm) fun σ H Q h => ?_⟩
  exact op_tO (fun _ _ _ _ z => z) (tT_of h)
theorem pb_not {m : M Bool} (h : PB X a m) : PB X (.UnaryOp .Not a pos) (bNot m) := by
  refine ⟨fun c W tk => PT.imp (pt_not (h.run c W tk)) fun σ H Q ⟨F, e, r, k⟩ => ⟨F, e, r, ?_⟩⟩
  exact Okx.imp (Okx.bind k) fun b e1 k1 F1 H1 r1 g1 => k1 F1 H1 r1 g1
structure PBw (X : Cx) (e : Expr) (m : M Bool) : Prop where
  run : ∀ c W, Takes X W → PW X e (tT (Sx X) c W m)
theorem PW.imp {X : Cx} {e : Expr} {t t' : TT} (h : PW X e t) (i : ∀ σ H Q, t' σ H Q → t σ H Q) : PW X e t' := ⟨fun wh pins s σ H Q I q => h.run wh pins s σ H Q I (i _ _ _ q)⟩
theorem pb_w {m : M Bool} (h : PBw X a m) : PB X a m := ⟨fun c W tk => (h.run c W tk).pt⟩
theorem pbw_and1 {m : M Bool} (h : PB X a m) : PBw X (.BoolOp .And [a] pos) m := ⟨fun c W tk => pw_and1 (h.run c W tk)⟩
theorem pbw_or1 {m : M Bool} (h : PB X a m) : PBw X (.BoolOp .Or [a] pos) m := ⟨fun c W tk => pw_or1 (h.run c W tk)⟩
theorem pbw_and {m n : M Bool} {rest : List Expr} (h : PB X a m) (h2 : PBw X (.BoolOp .And (b :: rest) pos) n) : PBw X (.BoolOp .And (a :: b :: rest) pos) (bAnd m n) := by
  refine ⟨fun c W tk => PW.imp (pw_and (h.run c W tk) (h2.run c W tk)) fun σ H Q ⟨F, e, r, k⟩ => ⟨F, e, r, ?_⟩⟩
  refine Okx.imp (Okx.bind k) fun b e1 k1 F1 H1 r1 g1 => ?_
  cases b with
  | false =>
    rw [if_neg Bool.false_ne_true] at k1 ⊢
    exact k1 F1 H1 r1 g1
  | true =>
    rw [if_pos rfl] at k1 ⊢
    exact ⟨F1, e1, r1, Okx.gr k1 g1 fun b e2 k2 F2 H2 r2 g2 => k2 F2 H2 r2 (g1.trans g2)⟩
theorem pbw_or {m n : M Bool} {rest : List Expr} (h : PB X a m) (h2 : PBw X (.BoolOp .Or (b :: rest) pos) n) : PBw X (.BoolOp .Or (a :: b :: rest) pos) (bOr m n) := by
  refine ⟨fun c W tk => PW.imp (pw_or (h.run c W tk) (h2.run c W tk)) fun σ H Q ⟨F, e, r, k⟩ => ⟨F, e, r, ?_⟩⟩
  refine Okx.imp (Okx.bind k) fun b e1 k1 F1 H1 r1 g1 => ?_
  cases b with
  | true =>
    rw [if_pos rfl] at k1 ⊢
    exact k1 F1 H1 r1 g1
  | false =>
    rw [if_neg Bool.false_ne_true] at k1 ⊢
    exact ⟨F1, e1, r1, Okx.gr k1 g1 fun b e2 k2 F2 H2 r2 g2 => k2 F2 H2 r2 (g1.trans g2)⟩
/-! as values -/
theorem px_not {m : M D} (h : PX X a m) : PX X (.UnaryOp .Not a pos) (eB (bNot (bE m))) := by
  refine ⟨fun c W tk => PE.imp (pe_not (h.run c W tk)) fun σ H Q ⟨F, e, r, k⟩ => ⟨F, e, r, ?_⟩⟩
  refine Okx.imp (Okx.bind (Okx.bind (Okx.bind k))) fun d e1 k1 v F1 H1 r1 g1 dv => ?_
  cases dv with
  | bl b => exact ⟨b, rfl, k1 _ F1 H1 r1 g1 (.bl _)⟩
  | _ => exact k1.elim
theorem px_one {m : M D} {op} (h : PX X a m) : PX X (.BoolOp op [a] pos) m := ⟨fun c W tk => pe_one (h.run c W tk)⟩
def eAnd (m n : M D) : M D := fun e => (m e).bind fun d e => match d with
  | .bl true => n e
  | .bl false => .ok (.bl false) e
  | _ => .bad
def eOr (m n : M D) : M D := fun e => (m e).bind fun d e => match d with
  | .bl true => .ok (.bl true) e
  | .bl false => n e
  | _ => .bad
theorem px_and {m n : M D} {rest : List Expr} (h : PX X a m) (h2 : PX X (.BoolOp .And (b :: rest) pos) n) : PX X (.BoolOp .And (a :: b :: rest) pos) (eAnd m n) := by
  refine ⟨fun c W tk => PE.imp (pe_and (h.run c W tk) (h2.run c W tk)) fun σ H Q ⟨F, e, r, k⟩ => ⟨F, e, r, ?_⟩⟩
  refine Okx.imp (Okx.bind k) fun d e1 k1 v F1 H1 r1 g1 dv => ?_
  cases dv with
  | bl b =>
    refine ⟨b, rfl, ?_⟩
    cases b with
    | false =>
      rw [if_neg Bool.false_ne_true]
      exact k1 _ F1 H1 r1 g1 (.bl _)
    | true =>
      rw [if_pos rfl]
      exact ⟨F1, e1, r1, Okx.gr k1 g1 fun b e2 k2 v F2 H2 r2 g2 => k2 v F2 H2 r2 (g1.trans g2)⟩
  | _ => exact k1.elim
theorem px_or {m n : M D} {rest : List Expr} (h : PX X a m) (h2 : PX X (.BoolOp .Or (b :: rest) pos) n) : PX X (.BoolOp .Or (a :: b :: rest) pos) (eOr m n) := by
  refine ⟨fun c W tk => PE.imp (pe_or (h.run c W tk) (h2.run c W tk)) fun σ H Q ⟨F, e, r, k⟩ => ⟨F, e, r, ?_⟩⟩
  refine Okx.imp (Okx.bind k) fun d e1 k1 v F1 H1 r1 g1 dv => ?_
  cases dv with
  | bl b =>
    refine ⟨b, rfl, ?_⟩
    cases b with
    | true =>
      rw [if_pos rfl]
      exact k1 _ F1 H1 r1 g1 (.bl _)
    | false =>
      rw [if_neg Bool.false_ne_true]
      exact ⟨F1, e1, r1, Okx.gr k1 g1 fun b e2 k2 v F2 H2 r2 g2 => k2 v F2 H2 r2 (g1.trans g2)⟩
  | _ => exact k1.elim
theorem px_if {t : Expr} {mt : M Bool} {m n : M D} (ht : PB X t mt) (h : PX X a m) (h2 : PX X b n) : PX X (.IfExp t a b pos) (eIf mt m n) := by
  refine ⟨fun c W tk => PE.imp (pe_ifExp (ht.run c W tk) (h.run c W tk) (h2.run c W tk)) fun σ H Q ⟨F, e, r, k⟩ => ⟨F, e, r, ?_⟩⟩
  refine Okx.imp (Okx.bind k) fun b e1 k1 F1 H1 r1 g1 => ?_
  cases b with
  | true =>
    rw [if_pos rfl] at k1 ⊢
    exact ⟨F1, e1, r1, Okx.gr k1 g1 fun b e2 k2 v F2 H2 r2 g2 => k2 v F2 H2 r2 (g1.trans g2)⟩
  | false =>
    rw [if_neg Bool.false_ne_true] at k1 ⊢
    exact ⟨F1, e1, r1, Okx.gr k1 g1 fun b e2 k2 v F2 H2 r2 g2 => k2 v F2 H2 r2 (g1.trans g2)⟩
end

/-! ### statements -/
inductive Fl where
  | nx | rt (d : D) | bk | ct
section
variable (S : Sg) (c : Bx) (W : WX)
def SPost (F : Hp) (G : Ends) (fl : Fl) (e : En) : Prop := match fl with
  | .nx => ∀ σ' F' H', Rel S c F' H' σ' e → Gr c F F' → G.nx σ' H'
  | .rt d => ∀ v σ' F' H', Rel S c F' H' σ' e → Gr c F F' → Dat S F' v d → G.rt v H'
  | .bk => ∀ σ' F' H', Rel S c F' H' σ' e → Gr c F F' → G.bk σ' H'
  | .ct => ∀ σ' F' H', Rel S c F' H' σ' e → Gr c F F' → G.ct σ' H'
def tS (m : M Fl) : TS := fun G σ H => ∃ F e, Rel S c F H σ e ∧ Okx S c W F (m e) fun fl e' => SPost S c F G fl e'
end
theorem SPost.gr {S : Sg} {c : Bx} {F F' : Hp} {G : Ends} {fl : Fl} {e : En} (h : SPost S c F G fl e) (g : Gr c F F') : SPost S c F' G fl e := by
  cases fl with
  | nx => exact fun σ' F2 H' r g' => h σ' F2 H' r (g.trans g')
  | rt d => exact fun v σ' F2 H' r g' => h v σ' F2 H' r (g.trans g')
  | bk => exact fun σ' F2 H' r g' => h σ' F2 H' r (g.trans g')
  | ct => exact fun σ' F2 H' r g' => h σ' F2 H' r (g.trans g')
structure PSd (X : Cx) (s : Stmt) (m : M Fl) : Prop where
  run : ∀ c W, Takes X W → PassesOwn (model X.prog X.w) X.A X.env X.xe → PS X s (tS (Sx X) c W m)
structure PSds (X : Cx) (s : List Stmt) (m : M Fl) : Prop where
  run : ∀ c W, Takes X W → PassesOwn (model X.prog X.w) X.A X.env X.xe → PSs X s (tS (Sx X) c W m)
def sNil : M Fl := fun e => .ok .nx e
def sSeq (m n : M Fl) : M Fl := fun e => (m e).bind fun fl e => match fl with
  | .nx => n e
  | .rt d => .ok (.rt d) e
  | .bk => .ok .bk e
  | .ct => .ok .ct e
def sIf (t : M Bool) (m n : M Fl) : M Fl := fun e => (t e).bind fun b e => if b = true then m e else n e
def sRet (m : M D) : M Fl := fun e => (m e).bind fun d e => .ok (.rt d) e
def sRetN : M Fl := fun e => .ok (.rt .non) e
def sBk : M Fl := fun e => .ok .bk e
def sCt : M Fl := fun e => .ok .ct e
def sExp (m : M D) : M Fl := fun e => (m e).bind fun _ e => .ok .nx e
/-- a slot that may be stored anew -/
def free (e : En) (i : Nat) : Bool := match e[i]? with
  | some (.ow true _) => false
  | some _ => true
  | none => false
def sSet (i : Nat) (m : M D) : M Fl := fun e => (m e).bind fun d e => if free e i = true then .ok .nx (e.set i (.fz d)) else .bad
def sNew (i : Nat) (m : M D) : M Fl := fun e => (m e).bind fun d e => if free e i = true then .ok .nx (e.set i (.ow false d)) else .bad
section
variable {S : Sg} {c : Bx} {F H : Hp} {σ : L2.St} {e : En}
theorem free_lt {i : Nat} (h : free e i = true) : i < e.length ∧ ∀ d, e[i]? ≠ some (.ow true d) := by
  unfold free at h
  cases z : e[i]? with
  | none => simp only [z] at h; cases h
  | some s =>
    refine ⟨(List.getElem?_eq_some_iff.mp z).1, fun d q => ?_⟩
    cases q
    simp only [z] at h
    cases h
theorem Rel.setFz {i : Nat} {v : V} {d : D} (r : Rel S c F H σ e) (h : Dat S F v d) (hf : free e i = true) : Rel S c F H (σ.set i (some v)) (e.set i (.fz d)) := by
  obtain ⟨hl, hn⟩ := free_lt hf
  have hs : i < σ.length := by rw [r.len]; exact hl
  refine ⟨r.bh, r.fh, by simp [r.len], fun {j d'} q => ?_, fun {j m d'} q => ?_, fun {j k m m' d1 d2 a} q1 q2 p1 p2 => ?_⟩
  · by_cases hj : i = j
    · subst hj
      rw [List.getElem?_set_self hl] at q
      cases q
      exact ⟨v, List.getElem?_set_self hs, h⟩
    · rw [List.getElem?_set_ne hj] at q ⊢
      exact r.fz q
  · by_cases hj : i = j
    · subst hj
      rw [List.getElem?_set_self hl] at q
      cases q
    · rw [List.getElem?_set_ne hj] at q ⊢
      exact r.ow q
  · have h1 : i ≠ j := fun z => by subst z; rw [List.getElem?_set_self hl] at q1; cases q1
    have h2 : i ≠ k := fun z => by subst z; rw [List.getElem?_set_self hl] at q2; cases q2
    rw [List.getElem?_set_ne h1] at q1 p1
    rw [List.getElem?_set_ne h2] at q2 p2
    exact r.dis q1 q2 p1 p2
theorem Rel.setOw {i : Nat} {p : Addr} {d : D} {H' : Hp} (r : Rel S c F H σ e) (hp : H p = none) (hh : Same H H') (fh : Same F H') (o : Own S F H' p d) (hf : free e i = true) : Rel S c F H' (σ.set i (some (.ref p))) (e.set i (.ow false d)) := by
  obtain ⟨hl, hn⟩ := free_lt hf
  have hs : i < σ.length := by rw [r.len]; exact hl
  have r' : Rel S c F H' σ e := r.ext ⟨Same.refl _, hh, fh, fun _ h n => absurd h n⟩
  have np : ∀ {j : Nat} {m : Bool} {d' : D} {a : Addr}, e[j]? = some (.ow m d') → σ[j]? = some (some (.ref a)) → a ≠ p := fun q s z => by
    obtain ⟨a', h1, _, _, h4, _⟩ := r.ow q
    rw [s] at h1
    cases h1
    obtain ⟨u, hu⟩ := h4.there
    rw [z, hp] at hu
    cases hu
  refine ⟨r'.bh, r'.fh, by simp [r.len], fun {j d'} q => ?_, fun {j m d'} q => ?_, fun {j k m m' d1 d2 a} q1 q2 p1 p2 => ?_⟩
  · by_cases hj : i = j
    · subst hj
      rw [List.getElem?_set_self hl] at q
      cases q
    · rw [List.getElem?_set_ne hj] at q ⊢
      exact r'.fz q
  · by_cases hj : i = j
    · subst hj
      rw [List.getElem?_set_self hl] at q
      cases q
      exact ⟨p, List.getElem?_set_self hs, Same.free r.fh hp, Same.free r.bh hp, o, fun z => nomatch z⟩
    · rw [List.getElem?_set_ne hj] at q ⊢
      exact r'.ow q
  · by_cases h1 : i = j
    · by_cases h2 : i = k
      · exact h1.symm.trans h2
      · subst h1
        rw [List.getElem?_set_self hs] at p1
        rw [List.getElem?_set_ne h2] at q2 p2
        cases p1
        exact absurd rfl (np q2 p2)
    · by_cases h2 : i = k
      · subst h2
        rw [List.getElem?_set_self hs] at p2
        rw [List.getElem?_set_ne h1] at q1 p1
        cases p2
        exact absurd rfl (np q1 p1)
      · rw [List.getElem?_set_ne h1] at q1 p1
        rw [List.getElem?_set_ne h2] at q2 p2
        exact r.dis q1 q2 p1 p2
end
section
variable {X : Cx} {a b : Expr} {s : Stmt} {ss : List Stmt} {pos : Pos}
theorem pd_nil : PSds X [] sNil := ⟨fun c W tk pw => PSs.imp pss_nil fun G σ H ⟨F, e, r, k⟩ => k σ F H r Gr.refl⟩
theorem pd_cons {m n : M Fl} (h : PSd X s m) (h2 : PSds X ss n) : PSds X (s :: ss) (sSeq m n) := by
  refine ⟨fun c W tk pw => PSs.imp (pss_cons (h.run c W tk pw) (h2.run c W tk pw)) fun G σ H ⟨F, e, r, k⟩ => ⟨F, e, r, ?_⟩⟩
  refine Okx.imp (Okx.bind k) fun fl e1 k1 => ?_
  cases fl with
  | nx => exact fun σ' F' H' r' g => ⟨F', e1, r', Okx.gr k1 g fun fl e2 k2 => k2.gr g⟩
  | rt d => exact k1
  | bk => exact k1
  | ct => exact k1
theorem pd_one {m : M Fl} (h : PSd X s m) : PSds X [s] m := ⟨fun c W tk pw => pss_one (h.run c W tk pw)⟩
theorem pd_if {t : Expr} {sa sb : List Stmt} {mt : M Bool} {m n : M Fl} (ht : PB X t mt) (h : PSds X sa m) (h2 : PSds X sb n) : PSd X (.If t sa sb pos) (sIf mt m n) := by
  refine ⟨fun c W tk pw => PS.imp (ps_if (ht.run c W tk) (h.run c W tk pw) (h2.run c W tk pw)) fun G σ H ⟨F, e, r, k⟩ => ⟨F, e, r, ?_⟩⟩
  refine Okx.imp (Okx.bind k) fun b e1 k1 F1 H1 r1 g1 => ?_
  cases b with
  | true =>
    rw [if_pos rfl] at k1 ⊢
    exact ⟨F1, e1, r1, Okx.gr k1 g1 fun fl e2 k2 => k2.gr g1⟩
  | false =>
    rw [if_neg Bool.false_ne_true] at k1 ⊢
    exact ⟨F1, e1, r1, Okx.gr k1 g1 fun fl e2 k2 => k2.gr g1⟩
theorem pd_ret {m : M D} (h : PX X a m) : PSd X (.Return (some a) pos) (sRet m) := by
  refine ⟨fun c W tk pw => PS.imp (ps_ret (h.run c W tk)) fun G σ H ⟨F, e, r, k⟩ => ⟨F, e, r, ?_⟩⟩
  exact Okx.imp (Okx.bind k) fun d e1 k1 v F1 H1 r1 g1 dv => k1 v σ F1 H1 r1 g1 dv
theorem pd_retN : PSd X (.Return none pos) sRetN := ⟨fun c W tk pw => PS.imp ps_retN fun G σ H ⟨F, e, r, k⟩ => k .non σ F H r Gr.refl .non⟩
theorem pd_pass : PSd X (.Pass pos) sNil := ⟨fun c W tk pw => PS.imp ps_pass fun G σ H ⟨F, e, r, k⟩ => k σ F H r Gr.refl⟩
theorem pd_bk : PSd X (.Break pos) sBk := ⟨fun c W tk pw => PS.imp ps_break fun G σ H ⟨F, e, r, k⟩ => k σ F H r Gr.refl⟩
theorem pd_ct : PSd X (.Continue pos) sCt := ⟨fun c W tk pw => PS.imp ps_continue fun G σ H ⟨F, e, r, k⟩ => k σ F H r Gr.refl⟩
theorem pd_exp {m : M D} (h : PX X a m) (hs : swapsWith a none pos.line X.env = pure false := by rfl) : PSd X (.Expr a pos) (sExp m) := by
  refine ⟨fun c W tk pw => PS.imp (ps_expr (h.run c W tk) hs) fun G σ H ⟨F, e, r, k⟩ => ⟨F, e, r, ?_⟩⟩
  exact Okx.imp (Okx.bind k) fun d e1 k1 v F1 H1 r1 g1 dv => k1 σ F1 H1 r1 g1
theorem pd_set (i : Nat) {x : Str} {m : M D} {pos' : Pos} (hN : X.N.Nodup) (h : PX X a m) (hi : X.N[i]? = some x := by rfl) (hx : Loc X.env.scope x := by first | exact Or.inl rfl | exact Or.inr rfl) (hs : swapsWith a (some (.Name x pos')) pos.line X.env = pure false := by rfl)
    (hf : X.fn x = true ∨ X.env.scope.names.lookup x = some .local := by first | exact .inl rfl | exact .inr rfl) : PSd X (.Assign [.Name x pos'] a pos) (sSet i m) := by
  refine ⟨fun c W tk pw => PS.imp (ps_set (i := i) hN hi hx (h.run c W tk) hs hf) fun G σ H ⟨F, e, r, k⟩ => ⟨F, e, r, ?_⟩⟩
  refine Okx.imp (Okx.bind k) fun d e1 k1 v F1 H1 r1 g1 dv => ?_
  by_cases hf : free e1 i = true
  · rw [if_pos hf] at k1
    exact k1 _ F1 H1 (r1.setFz dv hf) g1
  · rw [if_neg hf] at k1
    exact k1.elim
theorem pd_new (i : Nat) {x : Str} {m : M D} {pos' : Pos} (hN : X.N.Nodup) (h : PN X a m) (hi : X.N[i]? = some x := by rfl) (hx : Loc X.env.scope x := by first | exact Or.inl rfl | exact Or.inr rfl) (hs : swapsWith a (some (.Name x pos')) pos.line X.env = pure false := by rfl)
    (hf : X.fn x = true ∨ X.env.scope.names.lookup x = some .local := by first | exact .inl rfl | exact .inr rfl) : PSd X (.Assign [.Name x pos'] a pos) (sNew i m) := by
  refine ⟨fun c W tk pw => PS.imp (ps_set (i := i) hN hi hx (h.run c W tk) hs hf) fun G σ H ⟨F, e, r, k⟩ => ⟨F, e, r, ?_⟩⟩
  refine Okx.imp (Okx.bind k) fun d e1 k1 p F1 H1 H0 r1 g1 hp hh fh ow => ?_
  by_cases hf : free e1 i = true
  · rw [if_pos hf] at k1
    exact k1 _ F1 H1 (r1.setOw hp hh fh ow hf) g1
  · rw [if_neg hf] at k1
    exact k1.elim
end

/-! ### sharing what was owned -/
theorem Own.dat {S : Sg} {F H : Hp} {a : Addr} {d : D} (h : Own S F H a d) (hF : F a = none) : ∃ o, H a = some o ∧ Dat S (upd F a o) (.ref a) d := by
  cases d with
  | lst ds => obtain ⟨xs, h1, h2, h3⟩ := h; exact ⟨_, h1, .lst (.inl upd_same) h3 (h2.mono (same_new hF))⟩
  | dic kd => obtain ⟨kv, h1, h2, h3, h4⟩ := h; exact ⟨_, h1, .dic (.inl upd_same) h2 h3 (h4.mono (same_new hF))⟩
  | dit kd => obtain ⟨kv, h1, h2, h3, h4⟩ := h; exact ⟨_, h1, .dit (.inl upd_same) h2 h3 (h4.mono (same_new hF))⟩
  | obj cn kd => obtain ⟨C, dx, kv, h1, h2, h3, h4⟩ := h; exact ⟨_, h1, .obj h2 upd_same h3 (h4.mono (same_new hF))⟩
  | _ => exact h.elim
/-- a new object is shared at once -/
theorem px_new {X : Cx} {e : Expr} {m : M D} (h : PN X e m) : PX X e m := by
  refine ⟨fun c W tk => PE.imp (h.run c W tk) fun σ H Q ⟨F, e, r, k⟩ => ⟨F, e, r, ?_⟩⟩
  refine Okx.imp k fun d e1 k1 p F1 H1 H0 r1 g1 hp hh fh ow => ?_
  have hF : F1 p = none := Same.free r1.fh hp
  obtain ⟨o, ho, dd⟩ := ow.dat hF
  have x : Ext F1 H0 (upd F1 p o) H1 := ⟨same_new hF, hh, fun b u q => by
    by_cases hb : b = p
    · subst hb; rw [upd_same] at q; cases q; exact ho
    · rw [upd_ne hb] at q; exact fh _ _ q, fun b h1 h2 => by
    by_cases hb : b = p
    · rw [hb]; exact hp
    · rw [upd_ne hb] at h2; exact absurd h1 h2⟩
  exact k1 _ _ _ (r1.ext x) (g1.trans (r1.gr x)) dd
theorem py_new {X : Cx} {e : Expr} {m : M D} (h : PN X e m) : PY X e (oVa m) := py_of (px_new h)
/-- the ghost step: slot i is shared from here on -/
def frz (i : Nat) (e : En) : Option En := match e[i]? with
  | some (.ow false d) => some (e.set i (.fz d))
  | some (.fz _) => some e
  | _ => none
def sFrz (i : Nat) (m : M Fl) : M Fl := fun e => match frz i e with
  | some e' => m e'
  | none => .bad
theorem Rel.frz {S : Sg} {c : Bx} {F H : Hp} {σ : L2.St} {e e' : En} {i : Nat} (r : Rel S c F H σ e) (h : frz i e = some e') : ∃ F', Rel S c F' H σ e' ∧ Gr c F F' := by
  unfold DP.frz at h
  cases z : e[i]? with
  | none => simp only [z] at h; cases h
  | some s =>
    simp only [z] at h
    cases s with
    | no => cases h
    | fz d => cases h; exact ⟨F, r, Gr.refl⟩
    | ow m d =>
      cases m with
      | true => cases h
      | false =>
        cases h
        obtain ⟨a, h1, h2, h3, h4, _⟩ := r.ow z
        obtain ⟨o, ho, dd⟩ := h4.dat h2
        have hl : i < e.length := (List.getElem?_eq_some_iff.mp z).1
        have sm : Same F (upd F a o) := same_new h2
        refine ⟨upd F a o, ⟨r.bh, fun b u q => ?_, by simp [r.len], fun {j d'} q => ?_, fun {j m d'} q => ?_, fun {j k m m' d1 d2 a'} q1 q2 p1 p2 => ?_⟩, sm, fun b hb hn => ?_⟩
        · by_cases hb : b = a
          · subst hb; rw [upd_same] at q; cases q; exact ho
          · rw [upd_ne hb] at q; exact r.fh _ _ q
        · by_cases hj : i = j
          · subst hj
            rw [List.getElem?_set_self hl] at q
            cases q
            exact ⟨_, h1, dd⟩
          · rw [List.getElem?_set_ne hj] at q
            obtain ⟨v, q1, q2⟩ := r.fz q
            exact ⟨v, q1, q2.mono sm⟩
        · have hj : i ≠ j := fun y => by subst y; rw [List.getElem?_set_self hl] at q; cases q
          rw [List.getElem?_set_ne hj] at q
          obtain ⟨a', p1, p2, p3, p4, p5⟩ := r.ow q
          have na : a' ≠ a := fun y => hj (r.dis z q h1 (by rw [p1, y]))
          exact ⟨a', p1, by rw [upd_ne na]; exact p2, p3, p4.mono sm fun _ w => w, p5⟩
        · have n1 : i ≠ j := fun y => by subst y; rw [List.getElem?_set_self hl] at q1; cases q1
          have n2 : i ≠ k := fun y => by subst y; rw [List.getElem?_set_self hl] at q2; cases q2
          rw [List.getElem?_set_ne n1] at q1
          rw [List.getElem?_set_ne n2] at q2
          exact r.dis q1 q2 p1 p2
        · by_cases e1 : b = a
          · rw [e1]; exact h3
          · rw [upd_ne e1] at hn; exact absurd hb hn
theorem pd_frz (i : Nat) {X : Cx} {s : Stmt} {m : M Fl} (h : PSd X s m) : PSd X s (sFrz i m) := by
  refine ⟨fun c W tk pw => PS.imp (h.run c W tk pw) fun G σ H ⟨F, e, r, k⟩ => ?_⟩
  unfold sFrz at k
  cases z : frz i e with
  | none => simp only [z] at k; exact k.elim
  | some e' =>
    simp only [z] at k
    obtain ⟨F', r', g⟩ := r.frz z
    exact ⟨F', e', r', Okx.gr k g fun fl e2 k2 => k2.gr g⟩
end DP
set_option Elab.async false
set_option linter.all false
set_option maxRecDepth 100000
set_option maxHeartbeats 2000000
/-! DP4: what is walked, for, list comprehensions, stores. -/
namespace DP
open PySem PySem.Spec L2
open PyProof.Rows hiding St

theorem PI.imp {X : Cx} {tg e : Expr} {t t' : TI} (h : PI X tg e t) (i : ∀ σ H Q, t' σ H Q → t σ H Q) : PI X tg e t' := ⟨fun pins s σ H Q I q => h.run pins s σ H Q I (i _ _ _ q)⟩
theorem PG.imp {X : Cx} {tg : Expr} {t t' : TG} (h : PG X tg t) (i : ∀ v σ H Q, t' v σ H Q → t v σ H Q) : PG X tg t' := ⟨fun pins s σ H v u Q I r q => h.run pins s σ H v u Q I r (i _ _ _ _ q)⟩

/-- the iterator gives the data ds, in order -/
def ItOk (S : Sg) (F : Hp) (J : It) (ds : List D) : Prop := ∀ F' H', Same F F' → Same F' H' → ∀ i : Nat,
  (∀ d, ds[i]? = some d → J.go i H' ∧ ∀ x H'', J.yld i H' x H'' → ∃ F'', Ext F' H' F'' H'' ∧ Dat S F'' x d) ∧ (ds.length ≤ i → J.stop i H')
section
variable (S : Sg) (c : Bx) (W : WX)
def tI (m : M (List D)) : TI := fun σ H Q => ∃ F e, Rel S c F H σ e ∧ Okx S c W F (m e) fun ds e' => ∀ J F' H', Rel S c F' H' σ e' → Gr c F F' → ItOk S F' J ds → Q J H'
def tG (is : List Nat) (st : D → En → Option En) : TG := fun v σ H Q => ∃ F e d e', Rel S c F H σ e ∧ Dat S F v d ∧ st d e = some e' ∧ ∀ σ' F' H', Rel S c F' H' σ' e' → Gr c F F' → (σ'.length = σ.length ∧ ∀ j, j ∉ is → σ'[j]? = σ[j]?) → Q σ' H'
end
structure PIt (X : Cx) (tg e : Expr) (m : M (List D)) : Prop where
  run : ∀ c W, Takes X W → PI X tg e (tI (Sx X) c W m)
structure PGd (X : Cx) (tg : Expr) (is : List Nat) (st : D → En → Option En) : Prop where
  run : ∀ c, PG X tg (tG (Sx X) c is st)
def itD : D → Option (List D)
  | .lst ds => some ds
  | .tup ds => some ds
  | .scr ns => some (ns.map D.int)
  | .str x => some (x.cps.toList.map fun c => .str ⟨#[c]⟩)
  | _ => none
def iD (m : M D) : M (List D) := fun e => (m e).bind fun d e => match itD d with
  | some ds => .ok ds e
  | none => .bad
def rngs (lo hi : Int) : List D := (List.range (hi - lo).toNat).map fun i => .int (lo + (i : Nat))
def small (i : Int) : Bool := decide (i.natAbs < 4611686018427387904)
theorem small_ok {i : Int} (h : small i = true) : -(2 ^ 62) ≤ i ∧ i < 2 ^ 62 := by
  unfold small at h
  have h := of_decide_eq_true h
  omega
def iRg1 (m : M (List Op)) : M (List D) := fun e => (m e).bind fun os e => match os with
  | [.va (.int j)] => if small j = true then .ok (rngs 0 j) e else .bad
  | _ => .bad
def iRg2 (m : M (List Op)) : M (List D) := fun e => (m e).bind fun os e => match os with
  | [.va (.int i), .va (.int j)] => if small i = true ∧ small j = true then .ok (rngs i j) e else .bad
  | _ => .bad
def gN (i : Nat) : D → En → Option En := fun d e => if free e i = true then some (e.set i (.fz d)) else none
def gNs : List Nat → List D → En → Option En
  | [], [], e => some e
  | i :: is, d :: ds, e => match gN i d e with
    | some e' => gNs is ds e'
    | none => none
  | _, _, _ => none
def gT (is : List Nat) : D → En → Option En := fun d e => match d with
  | .tup ds => gNs is ds e
  | _ => none
def forL (st : D → En → Option En) (body : M Fl) : List D → M Fl
  | [] => fun e => .ok .nx e
  | d :: ds => fun e => match st d e with
    | none => .bad
    | some e1 => (body e1).bind fun fl e2 => match fl with
      | .nx => forL st body ds e2
      | .ct => forL st body ds e2
      | .bk => .ok .nx e2
      | .rt d => .ok (.rt d) e2
def sFor (m : M (List D)) (st : D → En → Option En) (body : M Fl) : M Fl := fun e => (m e).bind fun ds e => forL st body ds e
section
variable {S : Sg} {F H : Hp}
theorem itok_list {a : Addr} {xs : List V} {ds : List D} (h : SqL S.K F a xs) (hd : Dats S F xs ds) : ItOk S F (Itl S.K a) ds := fun F' H' fm fh i => by
  have hs : SqL S.K H' a xs := L2.Same.seq fh (L2.Same.seq fm h)
  refine ⟨fun d hi => ?_, fun hi => ⟨xs, hs, by rw [hd.length]; exact hi⟩⟩
  obtain ⟨v, hv, dv⟩ := hd.get hi
  refine ⟨⟨xs, v, hs, hv⟩, fun x H'' hy => ?_⟩
  obtain ⟨rfl, hx⟩ := hy
  have e : x = v := Option.some.inj ((hx _ hs).symm.trans hv)
  subst e
  exact ⟨F', Ext.refl fh, dv.mono fm⟩
theorem itok_tup {a : Addr} {xs : List V} {ds : List D} (h : SqT S.K F a xs) (hd : Dats S F xs ds) : ItOk S F (Itt S.K a) ds := fun F' H' fm fh i => by
  have hs : SqT S.K H' a xs := Same.seqT fh (Same.seqT fm h)
  refine ⟨fun d hi => ?_, fun hi => ⟨xs, hs, by rw [hd.length]; exact hi⟩⟩
  obtain ⟨v, hv, dv⟩ := hd.get hi
  refine ⟨⟨xs, v, hs, hv⟩, fun x H'' hy => ?_⟩
  obtain ⟨rfl, hx⟩ := hy
  have e : x = v := Option.some.inj ((hx _ hs).symm.trans hv)
  subst e
  exact ⟨F', Ext.refl fh, dv.mono fm⟩
theorem sOk_sign {x : Str} (h : sOk x) {c : Nat} (hc : c ∈ x.cps.toList) : sOk ⟨#[c]⟩ := by
  refine ⟨?_, ?_⟩
  · show 1 ≤ sizeLine
    rw [sizeLine_eq]; omega
  · have h2 := h.2
    unfold PyData.strOk at h2 ⊢
    rw [← Array.all_toList] at h2 ⊢
    have z := List.all_eq_true.mp h2 c hc
    simp only [List.all_cons, List.all_nil, Bool.and_true]
    exact z
theorem itok_str {x : Str} (h : sOk x) : ItOk S F (Its x) (x.cps.toList.map fun c => .str ⟨#[c]⟩) := fun F' H' fm fh i => by
  refine ⟨fun d hi => ?_, fun hi => ?_⟩
  · rw [List.getElem?_map, Option.map_eq_some_iff] at hi
    obtain ⟨c, hc, rfl⟩ := hi
    have hl : i < x.cps.toList.length := (List.getElem?_eq_some_iff.mp hc).1
    refine ⟨(by simpa using hl : i < x.cps.size), fun v H'' hy => ?_⟩
    obtain ⟨rfl, c', hc', rfl⟩ := hy
    have e : c' = c := by
      have q : x.cps.toList[i]? = some c' := by simpa using hc'
      exact Option.some.inj (q.symm.trans hc)
    subst e
    exact ⟨F', Ext.refl fh, .str (sOk_sign h (List.mem_of_getElem? hc))⟩
  · rw [List.length_map] at hi
    show x.cps.size ≤ i
    simpa using hi
theorem rngs_len {lo hi : Int} : (rngs lo hi).length = (hi - lo).toNat := by unfold rngs; rw [List.length_map, List.length_range]
theorem itok_rng {lo hi : Int} : ItOk S F (Itr lo (hi - lo).toNat) (rngs lo hi) := fun F' H' fm fh i => by
  refine ⟨fun d q => ?_, fun q => by rw [rngs_len] at q; exact q⟩
  have hl : i < (rngs lo hi).length := (List.getElem?_eq_some_iff.mp q).1
  rw [rngs_len] at hl
  unfold rngs at q
  rw [List.getElem?_map, List.getElem?_range hl] at q
  have e : D.int (lo + (i : Nat)) = d := Option.some.inj q
  subst e
  refine ⟨hl, fun x H'' hy => ?_⟩
  obtain ⟨rfl, rfl⟩ := hy
  exact ⟨F', Ext.refl fh, .int _⟩
end
section
variable {X : Cx} {tg a b iter : Expr} {pos p : Pos}
theorem PI.or {w1 w2 : TI} (h1 : PI X tg a w1) (h2 : PI X tg a w2) : PI X tg a (fun σ H R => w1 σ H R ∨ w2 σ H R) := ⟨fun pins s σ H R I q => by
  rcases q with q | q
  · exact h1.run pins s σ H R I q
  · exact h2.run pins s σ H R I q⟩
theorem pi_seq {m : M D} (h : PX X a m) : PIt X tg a (iD m) := by
  refine ⟨fun c W tk => PI.imp (PI.or (pi_list (h.run c W tk)) (PI.or (pi_tup (h.run c W tk)) (pi_str (h.run c W tk)))) fun σ H Q ⟨F, e, r, k⟩ => ?_⟩
  have k0 := Okx.bind k
  cases z : m e with
  | bad => rw [z] at k0; exact k0.elim
  | ex n fs e1 =>
    rw [z] at k0
    exact .inl ⟨F, e, r, by rw [z]; exact k0⟩
  | ok d e1 =>
    rw [z] at k0
    have k1 : Okx (Sx X) c W F (match itD d with
      | some ds => R.ok ds e1
      | none => R.bad) _ := k0
    cases d with
    | lst ds =>
      refine .inl ⟨F, e, r, ?_⟩
      rw [z]
      intro v F1 H1 r1 g1 dv
      cases dv with
      | lst hs hl hd => exact ⟨_, rfl, ⟨_, .inl (Same.rd r1.fh hs)⟩, k1 _ F1 H1 r1 g1 (itok_list (S := Sx X) (.inl hs) hd)⟩
    | scr ns =>
      refine .inl ⟨F, e, r, ?_⟩
      rw [z]
      intro v F1 H1 r1 g1 dv
      cases dv with
      | scr hs hl => exact ⟨_, rfl, ⟨_, L2.Same.seq r1.fh hs⟩, k1 _ F1 H1 r1 g1 (itok_list (S := Sx X) hs (Dats.ints ns))⟩
    | tup ds =>
      refine .inr (.inl ⟨F, e, r, ?_⟩)
      rw [z]
      intro v F1 H1 r1 g1 dv
      cases dv with
      | tup hs hl hd => exact ⟨_, rfl, ⟨_, Same.seqT r1.fh hs⟩, k1 _ F1 H1 r1 g1 (itok_tup (S := Sx X) hs hd)⟩
    | str x =>
      refine .inr (.inr ⟨F, e, r, ?_⟩)
      rw [z]
      intro v F1 H1 r1 g1 dv
      cases dv with
      | str hx => exact ⟨_, rfl, k1 _ F1 H1 r1 g1 (itok_str hx)⟩
    | _ => exact k1.elim
theorem pi_rg1 {m : M (List Op)} (h : PAr X [a] m) (hm : X.mg "range" = none) (hg : Gl X "range" := by rfl) (hs : starEach [a] X.env = [(false, eval a X.env)] := by rfl) : PIt X tg (.Call (.Name "range" p) [a] [] pos) (iRg1 m) := by
  refine ⟨fun c W tk => PI.imp (pi_range1 hg hm (h.run c W tk) hs) fun σ H Q ⟨F, e, r, k⟩ => ⟨F, e, r, ?_⟩⟩
  refine Okx.imp (Okx.bind k) fun os e1 k1 vs F1 H1 r1 g1 o1 => ?_
  match os, o1, k1 with
  | [.va (.int j)], .cons h1 .nil, k1 =>
    by_cases hj : small j = true
    · simp only [hj, if_true] at k1
      cases h1
      obtain ⟨q1, q2⟩ := small_ok hj
      refine ⟨j, rfl, q1, q2, k1 _ F1 H1 r1 g1 ?_⟩
      have := itok_rng (S := Sx X) (F := F1) (lo := 0) (hi := j)
      rw [Int.sub_zero] at this
      exact this
    · simp only [hj] at k1
      exact k1.elim
theorem pi_rg2 {m : M (List Op)} (h : PAr X [a, b] m) (hm : X.mg "range" = none) (hg : Gl X "range" := by rfl) (hs : starEach [a, b] X.env = [(false, eval a X.env), (false, eval b X.env)] := by rfl) (hs2 : starEach [b] X.env = [(false, eval b X.env)] := by rfl) :
    PIt X tg (.Call (.Name "range" p) [a, b] [] pos) (iRg2 m) := by
  refine ⟨fun c W tk => PI.imp (pi_range2 hg hm (h.run c W tk) hs hs2) fun σ H Q ⟨F, e, r, k⟩ => ⟨F, e, r, ?_⟩⟩
  refine Okx.imp (Okx.bind k) fun os e1 k1 vs F1 H1 r1 g1 o1 => ?_
  match os, o1, k1 with
  | [.va (.int i), .va (.int j)], .cons h1 (.cons h2 .nil), k1 =>
    by_cases hj : small i = true ∧ small j = true
    · simp only [hj, and_self, if_true] at k1
      cases h1
      cases h2
      obtain ⟨q1, q2⟩ := small_ok hj.1
      obtain ⟨q3, q4⟩ := small_ok hj.2
      exact ⟨i, j, rfl, ⟨q1, q2, q3, q4⟩, k1 _ F1 H1 r1 g1 itok_rng⟩
    · simp only [hj, if_false] at k1
      exact k1.elim
/-! targets -/
theorem pgd_name (i : Nat) {x : Str} (hN : X.N.Nodup) (hi : X.N[i]? = some x := by rfl) (hx : Loc X.env.scope x := by first | exact Or.inl rfl | exact Or.inr rfl) (hf : X.fn x = true ∨ X.env.scope.names.lookup x = some .local := by first | exact .inl rfl | exact .inr rfl) : PGd X (.Name x pos) [i] (gN i) := by
  refine ⟨fun c => PG.imp (pg_name (i := i) hN hi hx hf) fun v σ H Q ⟨F, e, d, e', r, dv, hs, k⟩ => ?_⟩
  unfold gN at hs
  by_cases hf : free e i = true
  · rw [if_pos hf] at hs
    cases hs
    exact k _ F H (r.setFz dv hf) Gr.refl ⟨by simp, fun j hj => List.getElem?_set_ne (fun z => hj (by rw [z]; exact List.mem_singleton.mpr rfl))⟩
  · rw [if_neg hf] at hs
    cases hs
theorem PGs.imp {X : Cx} {tg : List Expr} {t t' : TGs} (h : PGs X tg t) (i : ∀ v σ H Q, t' v σ H Q → t v σ H Q) : PGs X tg t' := ⟨fun pins s σ H v u Q I r q => h.run pins s σ H v u Q I r (i _ _ _ _ q)⟩
def tGs (S : Sg) (c : Bx) (is : List Nat) : TGs := fun vs σ H Q => ∃ F e ds e', Rel S c F H σ e ∧ Dats S F vs ds ∧ gNs is ds e = some e' ∧ ∀ σ' F' H', Rel S c F' H' σ' e' → Gr c F F' → (σ'.length = σ.length ∧ ∀ j, j ∉ is → σ'[j]? = σ[j]?) → Q σ' H'
structure PGds (X : Cx) (tg : List Expr) (is : List Nat) : Prop where
  run : ∀ c, PGs X tg (tGs (Sx X) c is)
theorem pgds_nil : PGds X [] [] := by
  refine ⟨fun c => PGs.imp pgs_nil fun vs σ H Q ⟨F, e, ds, e', r, dv, hs, k⟩ => ?_⟩
  cases dv with
  | nil =>
    have hs' : some e = some e' := hs
    cases hs'
    exact ⟨rfl, k σ F H r Gr.refl ⟨rfl, fun _ _ => rfl⟩⟩
  | cons h t => cases hs
theorem pgds_cons {x : Expr} {xs : List Expr} {i : Nat} {is : List Nat} (h : PGd X x [i] (gN i)) (h2 : PGds X xs is) (hs : (assignEach (x :: xs) X.env).map (·.2) = assign x X.env :: (assignEach xs X.env).map (·.2) := by rfl) : PGds X (x :: xs) (i :: is) := by
  refine ⟨fun c => PGs.imp (pgs_cons (h.run c) (h2.run c) hs) fun vs σ H Q ⟨F, e, ds, e', r, dv, hs, k⟩ => ?_⟩
  match vs, ds, dv, hs with
  | [], [], .nil, hs => cases hs
  | v :: vs, d :: ds, .cons dh dt, hs =>
    have hs' : (match gN i d e with
      | some e' => gNs is ds e'
      | none => none) = some e' := hs
    cases z : gN i d e with
    | none => rw [z] at hs'; cases hs'
    | some e1 =>
      rw [z] at hs'
      exact ⟨v, vs, rfl, F, e, d, e1, r, dh, z, fun σ' F' H' r' g a1 => ⟨F', e1, ds, e', r', dt.mono g.1, hs', fun σ2 F2 H2 r2 g2 a2 => k σ2 F2 H2 r2 (g.trans g2) ⟨a2.1.trans a1.1, fun j hj => (a2.2 j fun z => hj (List.mem_cons_of_mem _ z)).trans (a1.2 j fun z => hj (by rw [List.mem_singleton.mp z]; exact List.mem_cons_self))⟩⟩⟩
theorem gNs_len : ∀ {is : List Nat} {ds : List D} {e e' : En}, gNs is ds e = some e' → is.length = ds.length
  | [], [], _, _, _ => rfl
  | i :: is, d :: ds, e, e', h => by
    have hs' : (match gN i d e with
      | some e' => gNs is ds e'
      | none => none) = some e' := h
    cases z : gN i d e with
    | none => rw [z] at hs'; cases hs'
    | some e1 =>
      rw [z] at hs'
      exact congrArg (· + 1) (gNs_len hs')
  | [], _ :: _, _, _, h => by cases h
  | _ :: _, [], _, _, h => by cases h
theorem pgd_tup {xs : List Expr} {k : Nat} {is : List Nat} (hc : X.calm = true) (h : PGds X xs is) (hn : (assignEach xs X.env).length = is.length := by rfl) (hst : (assignEach xs X.env).findIdx? (·.1) = none := by rfl) : PGd X (.Tuple xs k pos) is (gT is) := by
  refine ⟨fun c => PG.imp (pg_tup hc (h.run c) hn hst) fun v σ H Q ⟨F, e, d, e', r, dv, hs, k⟩ => ?_⟩
  cases dv with
  | tup hq hl hd =>
    have hs' : gNs is _ e = some e' := hs
    exact ⟨_, _, rfl, Same.seqT r.fh hq, by rw [hd.length, ← gNs_len hs'], F, e, _, e', r, hd, hs', k⟩
  | _ => cases hs
/-- a, b = e -/
def sSetT (st : D → En → Option En) (m : M D) : M Fl := fun e => (m e).bind fun d e => match st d e with
  | some e' => .ok .nx e'
  | none => .bad
theorem pd_asg {is : List Nat} {st : D → En → Option En} {m : M D} (h : PX X a m) (hg : PGd X tg is st) (hs : swapsWithSole [tg] a pos.line X.env = pure false := by rfl) (hw : swappedStores [tg] a X.env = pure none := by rfl)
    (h1 : (assignEach [tg] X.env).map (·.2) = [assign tg X.env] := by rfl) : PSd X (.Assign [tg] a pos) (sSetT st m) := by
  refine ⟨fun c W tk pw => PS.imp (ps_asg (h.run c W tk) (hg.run c) hs hw h1) fun G σ H ⟨F, e, r, k⟩ => ⟨F, e, r, ?_⟩⟩
  refine Okx.imp (Okx.bind k) fun d e1 k1 v F1 H1 r1 g1 dv => ?_
  cases z : st d e1 with
  | none => simp only [z] at k1; exact k1.elim
  | some e2 =>
    simp only [z] at k1
    exact ⟨F1, e1, d, e2, r1, dv, z, fun σ' F' H' r' g _ => k1 σ' F' H' r' (g1.trans g)⟩
/-- for -/
theorem pd_for {is : List Nat} {m : M (List D)} {st : D → En → Option En} {body : List Stmt} {mb : M Fl} (hc : X.calm = true) (hi : PIt X tg iter m) (hg : PGd X tg is st) (hb : PSds X body mb) (hs : ∀ x, foldedSetIterable iter X.env x = pure x := by intro _; rfl) :
    PSd X (.For tg iter body [] pos) (sFor m st mb) := by
  refine ⟨fun c W tk pw => PS.imp (ps_for pw hc (hi.run c W tk) (hg.run c) (hb.run c W tk pw) hs) fun G σ H ⟨F, e, r, k⟩ => ⟨F, e, r, ?_⟩⟩
  refine Okx.imp (Okx.bind k) fun ds e1 k1 J F1 H1 r1 g1 ok => ?_
  refine ⟨fun i m σ H => i + m = ds.length ∧ ∃ F2 e2, Rel (Sx X) c F2 H σ e2 ∧ Gr c F1 F2 ∧ Okx (Sx X) c W F2 (forL st mb (ds.drop i) e2) fun fl e' => SPost (Sx X) c F2 G fl e',
    ⟨ds.length, Nat.zero_add _, F1, e1, r1, Gr.refl, Okx.gr k1 g1 fun fl e' q => q.gr g1⟩, fun i m σ H hW => ?_⟩
  obtain ⟨him, F2, e2, r2, g2, k2⟩ := hW
  have okk := ok F2 H g2.1 r2.fh i
  by_cases hlt : i < ds.length
  · refine .inr ?_
    have hd : ds[i]? = some ds[i] := List.getElem?_eq_getElem hlt
    obtain ⟨hgo, hy⟩ := okk.1 _ hd
    have edrop : ds.drop i = ds[i] :: ds.drop (i + 1) := List.drop_eq_getElem_cons hlt
    rw [edrop] at k2
    have k3 : Okx (Sx X) c W F2 (match st ds[i] e2 with
      | none => R.bad
      | some e1 => (mb e1).bind fun fl e2 => match fl with
        | .nx => forL st mb (ds.drop (i + 1)) e2
        | .ct => forL st mb (ds.drop (i + 1)) e2
        | .bk => .ok .nx e2
        | .rt d => .ok (.rt d) e2) (fun fl e' => SPost (Sx X) c F2 G fl e') := k2
    cases z : st ds[i] e2 with
    | none => rw [z] at k3; exact k3.elim
    | some e3 =>
      rw [z] at k3
      have k4 := Okx.bind k3
      refine ⟨hgo, fun σ' H' => i + 1 + (m - 1) = ds.length ∧ ∃ F2 e2, Rel (Sx X) c F2 H' σ' e2 ∧ Gr c F1 F2 ∧ Okx (Sx X) c W F2 (forL st mb (ds.drop (i + 1)) e2) fun fl e' => SPost (Sx X) c F2 G fl e',
        fun σ' H' hN => ⟨m - 1, by omega, hN⟩, fun x H' hyx => ?_⟩
      obtain ⟨F3, ext, dx⟩ := hy x H' hyx
      have g3 := r2.gr ext
      refine ⟨F3, e2, ds[i], e3, r2.ext ext, dx, z, fun σ4 F4 H4 r4 g4 _ => ⟨F4, e3, r4, Okx.gr k4 (g3.trans g4) fun fl e5 q => ?_⟩⟩
      have go : ∀ {σ' F' H'}, Rel (Sx X) c F' H' σ' e5 → Gr c F4 F' → Okx (Sx X) c W F2 (forL st mb (ds.drop (i + 1)) e5) (fun fl e' => SPost (Sx X) c F2 G fl e') →
          (i + 1 + (m - 1) = ds.length ∧ ∃ F2 e2, Rel (Sx X) c F2 H' σ' e2 ∧ Gr c F1 F2 ∧ Okx (Sx X) c W F2 (forL st mb (ds.drop (i + 1)) e2) fun fl e' => SPost (Sx X) c F2 G fl e') := fun {σ' F' H'} r' g' q =>
        ⟨by omega, F', e5, r', g2.trans (g3.trans (g4.trans g')), Okx.gr q (g3.trans (g4.trans g')) fun fl e' w => w.gr (g3.trans (g4.trans g'))⟩
      cases fl with
      | nx => exact fun σ' F' H' r' g' => go r' g' q
      | ct => exact fun σ' F' H' r' g' => go r' g' q
      | bk =>
        have q' : SPost (Sx X) c F2 G .nx e5 := q
        exact fun σ' F' H' r' g' => q' σ' F' H' r' (g3.trans (g4.trans g'))
      | rt d =>
        have q' : SPost (Sx X) c F2 G (.rt d) e5 := q
        exact fun v σ' F' H' r' g' dv => q' v σ' F' H' r' (g3.trans (g4.trans g')) dv
  · refine .inl ⟨okk.2 (Nat.le_of_not_lt hlt), ?_⟩
    rw [List.drop_of_length_le (Nat.le_of_not_lt hlt)] at k2
    have k3 : SPost (Sx X) c F2 G .nx e2 := k2
    exact k3 σ F2 H r2 Gr.refl
end
end DP
set_option Elab.async false
set_option linter.all false
set_option maxRecDepth 100000
set_option maxHeartbeats 2000000
/-! DP5: owned lists changed, list comprehensions, defs and calls. -/
namespace DP
open PySem PySem.Spec L2
open PyProof.Rows hiding St

/-! ### an owned object changed -/
theorem Rel.mut {S : Sg} {c : Bx} {F H : Hp} {σ : L2.St} {e : En} {i : Nat} {m : Bool} {d d' : D} {a : Addr} {o : HO} (r : Rel S c F H σ e) (h : e[i]? = some (.ow m d)) (hs : σ[i]? = some (some (.ref a))) (ho : Own S F (upd H a o) a d') :
    Rel S c F (upd H a o) σ (e.set i (.ow m d')) := by
  obtain ⟨a', h1, h2, h3, h4, h5⟩ := r.ow h
  rw [hs] at h1
  cases h1
  have hl : i < e.length := (List.getElem?_eq_some_iff.mp h).1
  have nb : ∀ {b u}, F b = some u → b ≠ a := fun q z => by rw [z, h2] at q; cases q
  have nB : ∀ {b u}, c.B b = some u → b ≠ a := fun q z => by rw [z, h3] at q; cases q
  refine ⟨fun b u q => by rw [upd_ne (nB q)]; exact r.bh _ _ q, fun b u q => by rw [upd_ne (nb q)]; exact r.fh _ _ q, by simp [r.len], fun {j d1} q => ?_, fun {j m1 d1} q => ?_, fun {j k m1 m2 d1 d2 b} q1 q2 p1 p2 => ?_⟩
  · have hj : i ≠ j := fun z => by subst z; rw [List.getElem?_set_self hl] at q; cases q
    rw [List.getElem?_set_ne hj] at q
    exact r.fz q
  · by_cases hj : i = j
    · subst hj
      rw [List.getElem?_set_self hl] at q
      cases q
      exact ⟨a, hs, h2, h3, ho, h5⟩
    · rw [List.getElem?_set_ne hj] at q
      obtain ⟨b, p1, p2, p3, p4, p5⟩ := r.ow q
      have nba : b ≠ a := fun z => hj (r.dis h q hs (by rw [p1, z]))
      exact ⟨b, p1, p2, p3, p4.mono (Same.refl _) fun w hw => by rw [upd_ne nba]; exact hw, p5⟩
  · have g : ∀ {l ml dl}, (e.set i (Sl.ow m d'))[l]? = some (Sl.ow ml dl) → ∃ m' d', e[l]? = some (Sl.ow m' d') := fun {l ml dl} q => by
      by_cases hl2 : i = l
      · subst hl2; exact ⟨_, _, h⟩
      · rw [List.getElem?_set_ne hl2] at q; exact ⟨_, _, q⟩
    obtain ⟨_, _, g1⟩ := g q1
    obtain ⟨_, _, g2⟩ := g q2
    exact r.dis g1 g2 p1 p2
def isLst : Option Sl → Bool
  | some (.ow _ (.lst _)) => true
  | _ => false
/-- x.append(m), x in slot i -/
def sApp (i : Nat) (m : M D) : M Fl := fun e => if isLst e[i]? = true then (m e).bind fun d e => match e[i]? with
  | some (.ow b (.lst ds)) => if ds.length < sizeLine then .ok .nx (e.set i (.ow b (.lst (ds ++ [d])))) else .bad
  | _ => .bad else .bad
theorem isLst_ok {o : Option Sl} (h : isLst o = true) : ∃ b ds, o = some (.ow b (.lst ds)) := by
  match o, h with
  | some (.ow b (.lst ds)), _ => exact ⟨b, ds, rfl⟩
section
variable {X : Cx} {a b k : Expr} {pos p cpos apos p' : Pos}
theorem pd_app (i : Nat) {x : Str} {m : M D} (h : PX X a m) (hN : X.N[i]? = some x := by rfl) (hv : Vis X.env.scope x := by first | exact Or.inl rfl | exact Or.inr (Or.inl rfl) | exact Or.inr (Or.inr rfl)) (hd : (x == ("__debug__" : Str)) = false := by decide)
    (hcd : (x == ("__classdict__" : Str)) = false := by decide)
    (hbase : attributeBase (.Name x p) ("append" : Str) X.env (eval (.Name x p) X.env) = eval (.Name x p) X.env := by rfl)
    (hfew : ((backTo cpos (starEach [a] X.env)).all (fun x => !x.1) && (backToKw cpos (keywordEach [] X.env)).all (fun x => x.1.isSome)
      && decide ([a].length + ([] : List Keyword).length + (if ([] : List Keyword).isEmpty then 0 else 1) < 30)) = true := by rfl)
    (hline : (apos.endLine == cpos.line) = true := by rfl) (hs : starEach [a] X.env = (false, eval a X.env) :: starEach [] X.env := by rfl) (hplain : (backTo cpos (starEach [] X.env)).any (·.1) = false := by rfl)
    (hsw : swapsWith (.Call (.Attribute (.Name x p) "append" apos) [a] [] cpos) none pos.line X.env = pure false := by rfl) :
    PSd X (.Expr (.Call (.Attribute (.Name x p) "append" apos) [a] [] cpos) pos) (sApp i m) := by
  refine ⟨fun c W tk pw => PS.imp (ps_expr (pe_bm PySem.F.plainAttrs_list PySem.F.slot_list_append PySem.F.type_list_append mt_append (pe_var (i := i) hN hv hd hcd) (pa_cons (h.run c W tk) pa_nil hs) hbase hfew hline hs hplain) hsw) fun G σ H ⟨F, e, r, q⟩ => ?_⟩
  unfold sApp at q
  by_cases hl : isLst e[i]? = true
  · rw [if_pos hl] at q
    obtain ⟨b, ds, z⟩ := isLst_ok hl
    obtain ⟨ad, h1, h2, h3, ⟨xs, h4, _, _⟩, h5⟩ := r.ow z
    refine ⟨_, h1, .inl ⟨rfl, _, SqL.of h4⟩, F, e, r, Okx.imp (Okx.bind q) fun d e1 k1 v F1 H1 r1 g1 dv => ?_⟩
    cases z1 : e1[i]? with
    | none => simp only [z1] at k1; exact k1.elim
    | some s =>
      simp only [z1] at k1
      match s, k1 with
      | .ow b1 (.lst es), k1 =>
        obtain ⟨ad', p1, p2, p3, ⟨ys, p4, p5, p6⟩, _⟩ := r1.ow z1
        rw [h1] at p1
        cases p1
        by_cases hz : es.length < sizeLine
        · simp only [hz, if_true] at k1
          refine ⟨ad, ys, v, rfl, rfl, p4, by rw [p5.length]; exact hz, ?_⟩
          exact k1 σ F1 _ (r1.mut z1 h1 ⟨ys ++ [v], upd_same, p5.append (Dats.one dv), by rw [List.length_append]; exact hz⟩) g1
        · simp only [hz, if_false] at k1
          exact k1.elim
  · rw [if_neg hl] at q
    exact q.elim
end
end DP
set_option Elab.async false
set_option linter.all false
set_option maxRecDepth 100000
set_option maxHeartbeats 2000000
/-! DP6: defs and calls. -/
namespace DP
open PySem PySem.Spec L2
open PyProof.Rows hiding St

/-- what a def gives: its value, what its changed arguments hold -/
inductive DR where
  | ok (d : D) (ms : List D)
  | ex (c : Str) (fs : List (Str × D)) (ms : List D)
  | bad
def slotOf (m : Bool) (d : D) : Sl := if m = true then .ow true d else .fz d
def initE (pm : List Bool) (n : Nat) (ds : List D) : En := List.zipWith slotOf pm ds ++ List.replicate (n - ds.length) .no
/-- the changed arguments at the end -/
def muts : List Bool → En → Option (List D)
  | [], _ => some []
  | false :: pm, _ :: e => muts pm e
  | true :: pm, s :: e => match s, muts pm e with
    | .ow true d, some ds => some (d :: ds)
    | _, _ => none
  | _, _ => none
def endR (pm : List Bool) : R Fl → DR
  | .ok (.rt d) e => match muts pm e with
    | some ms => .ok d ms
    | none => .bad
  | .ok .nx e => match muts pm e with
    | some ms => .ok .non ms
    | none => .bad
  | .ex c fs e => match muts pm e with
    | some ms => .ex c fs ms
    | none => .bad
  | _ => .bad
def runD (pm : List Bool) (n : Nat) (m : M Fl) (ds : List D) : DR := if ds.length = pm.length then endR pm (m (initE pm n ds)) else .bad

section
variable (S : Sg)
/-- an argument: shared data, or an object that the callee may change -/
def ArgD (F H : Hp) (v : V) : Bool → D → Prop
  | false, d => Dat S F v d
  | true, d => ∃ a, v = .ref a ∧ F a = none ∧ Own S F H a d
inductive ArgsD (F H : Hp) : List Bool → List V → List D → Prop
  | nil : ArgsD F H [] [] []
  | cons {m : Bool} {v : V} {d : D} {pm : List Bool} {vs : List V} {ds : List D} : ArgD S F H v m d → ArgsD F H pm vs ds → ArgsD F H (m :: pm) (v :: vs) (d :: ds)
/-- where the arguments stand that the callee may change -/
def mAdr : List Bool → List V → List Addr
  | true :: pm, .ref a :: vs => a :: mAdr pm vs
  | _ :: pm, _ :: vs => mAdr pm vs
  | _, _ => []
inductive MutsD (F H : Hp) : List Bool → List V → List D → Prop
  | nil : MutsD F H [] [] []
  | keep {v : V} {pm : List Bool} {vs : List V} {ms : List D} : MutsD F H pm vs ms → MutsD F H (false :: pm) (v :: vs) ms
  | chg {a : Addr} {d : D} {pm : List Bool} {vs : List V} {ms : List D} : F a = none → Own S F H a d → MutsD F H pm vs ms → MutsD F H (true :: pm) (.ref a :: vs) (d :: ms)
structure Fin (F H : Hp) (pm : List Bool) (vs : List V) (ms : List D) (F' H' : Hp) : Prop where
  ff : Same F F'
  fh : Same F' H'
  nw : ∀ a, F a = none → F' a ≠ none → H a = none
  hh : ∀ a o, H a = some o → a ∉ mAdr pm vs → H' a = some o
  mu : MutsD S F' H' pm vs ms
def spD (pm : List Bool) (den : List D → DR) : Sp := fun vs H Q E => ∃ F ds, Same F H ∧ ArgsD S F H pm vs ds ∧ (mAdr pm vs).Nodup ∧ match den ds with
  | .ok d ms => ∀ v F' H', Fin S F H pm vs ms F' H' → Dat S F' v d → Q v H'
  | .ex c fs ms => ∀ cls dd F' H', Fin S F H pm vs ms F' H' → ExD S F' H' cls dd c fs → E cls dd H'
  | .bad => False
end

/-! ### the entry -/
section
variable {S : Sg}
theorem ArgsD.len {F H : Hp} : ∀ {pm : List Bool} {vs : List V} {ds : List D}, ArgsD S F H pm vs ds → pm.length = vs.length ∧ vs.length = ds.length
  | _, _, _, .nil => ⟨rfl, rfl⟩
  | _, _, _, .cons _ t => ⟨congrArg (· + 1) (ArgsD.len t).1, congrArg (· + 1) (ArgsD.len t).2⟩
theorem ArgsD.at {F H : Hp} : ∀ {pm : List Bool} {vs : List V} {ds : List D} {i : Nat} {s : Sl}, ArgsD S F H pm vs ds → (List.zipWith slotOf pm ds)[i]? = some s → ∃ m v d, pm[i]? = some m ∧ vs[i]? = some v ∧ s = slotOf m d ∧ ArgD S F H v m d
  | _, _, _, i, s, .nil, h => by simp at h
  | _, _, _, 0, s, .cons h t, e => by
    simp at e
    exact ⟨_, _, _, rfl, rfl, e.symm, h⟩
  | _, _, _, i + 1, s, .cons h t, e => by
    obtain ⟨m, v, d, h1, h2, h3, h4⟩ := ArgsD.at (i := i) (s := s) t (by simpa using e)
    exact ⟨m, v, d, by simpa using h1, by simpa using h2, h3, h4⟩
theorem mAdr_mem {F H : Hp} : ∀ {pm : List Bool} {vs : List V} {i : Nat} {a : Addr}, pm[i]? = some true → vs[i]? = some (.ref a) → a ∈ mAdr pm vs
  | [], _, _, _, h, _ => by simp at h
  | _ :: _, [], _, _, _, h => by simp at h
  | true :: pm, v :: vs, 0, a, h, e => by
    have e' : v = .ref a := by simpa using e
    subst e'
    exact List.mem_cons_self
  | false :: pm, v :: vs, 0, a, h, e => by simp at h
  | true :: pm, v :: vs, i + 1, a, h, e => by
    have q := mAdr_mem (F := F) (H := H) (pm := pm) (vs := vs) (i := i) (a := a) (by simpa using h) (by simpa using e)
    cases v with
    | ref b => exact List.mem_cons_of_mem _ q
    | _ => exact q
  | false :: pm, v :: vs, i + 1, a, h, e => mAdr_mem (F := F) (H := H) (pm := pm) (vs := vs) (i := i) (a := a) (by simpa using h) (by simpa using e)
theorem mAdr_inj : ∀ {pm : List Bool} {vs : List V} {i j : Nat} {a : Addr}, (mAdr pm vs).Nodup → pm[i]? = some true → vs[i]? = some (.ref a) → pm[j]? = some true → vs[j]? = some (.ref a) → i = j
  | [], _, _, _, _, _, h, _, _, _ => by simp at h
  | _ :: _, [], _, _, _, _, _, h, _, _ => by simp at h
  | m :: pm, v :: vs, 0, 0, a, _, _, _, _, _ => rfl
  | m :: pm, v :: vs, 0, j + 1, a, nd, h1, e1, h2, e2 => by
    have hm : m = true := by simpa using h1
    have hv : v = .ref a := by simpa using e1
    subst hm hv
    have nd' : (a :: mAdr pm vs).Nodup := nd
    exact absurd (mAdr_mem (F := fun _ => none) (H := fun _ => none) (i := j) (by simpa using h2) (by simpa using e2)) (List.nodup_cons.mp nd').1
  | m :: pm, v :: vs, i + 1, 0, a, nd, h1, e1, h2, e2 => by
    have hm : m = true := by simpa using h2
    have hv : v = .ref a := by simpa using e2
    subst hm hv
    have nd' : (a :: mAdr pm vs).Nodup := nd
    exact absurd (mAdr_mem (F := fun _ => none) (H := fun _ => none) (i := i) (by simpa using h1) (by simpa using e1)) (List.nodup_cons.mp nd').1
  | m :: pm, v :: vs, i + 1, j + 1, a, nd, h1, e1, h2, e2 => by
    have nd' : (mAdr pm vs).Nodup := by
      cases m with
      | false => exact nd
      | true =>
        cases v with
        | ref b => exact (List.nodup_cons.mp (show (b :: mAdr pm vs).Nodup from nd)).2
        | _ => exact nd
    exact congrArg (· + 1) (mAdr_inj nd' (by simpa using h1) (by simpa using e1) (by simpa using h2) (by simpa using e2))
/-- the heap without the addresses of l -/
def cut (H : Hp) (l : List Addr) : Hp := fun a => if a ∈ l then none else H a
theorem cut_in {H : Hp} {l : List Addr} {a : Addr} (h : a ∈ l) : cut H l a = none := by unfold cut; rw [if_pos h]
theorem cut_out {H : Hp} {l : List Addr} {a : Addr} (h : a ∉ l) : cut H l a = H a := by unfold cut; rw [if_neg h]
theorem same_cut {H : Hp} {l : List Addr} : Same (cut H l) H := fun a o e => by
  by_cases h : a ∈ l
  · rw [cut_in h] at e; cases e
  · rw [cut_out h] at e; exact e
/-- the frame of reference of a def -/
def bxOf (H : Hp) (pm : List Bool) (vs : List V) : Bx := ⟨cut H (mAdr pm vs), fun i => match vs[i]? with
  | some (.ref a) => a
  | _ => 0⟩
theorem getElem_init {pm : List Bool} {n : Nat} {ds : List D} {i : Nat} {s : Sl} (hl : pm.length = ds.length) (h : (initE pm n ds)[i]? = some s) : (i < ds.length ∧ (List.zipWith slotOf pm ds)[i]? = some s) ∨ s = .no := by
  unfold initE at h
  have hz : (List.zipWith slotOf pm ds).length = ds.length := by rw [List.length_zipWith, hl, Nat.min_self]
  by_cases hi : i < ds.length
  · rw [List.getElem?_append_left (by rw [hz]; exact hi)] at h
    exact .inl ⟨hi, h⟩
  · rw [List.getElem?_append_right (by rw [hz]; omega)] at h
    exact .inr (List.eq_of_mem_replicate (List.mem_of_getElem? h))
theorem rel_init {F H : Hp} {N : List Str} {pm : List Bool} {vs : List V} {ds : List D} (fh : Same F H) (A : ArgsD S F H pm vs ds) (nd : (mAdr pm vs).Nodup) (hn : ds.length ≤ N.length) :
    Rel S (bxOf H pm vs) F H (L2.start N vs) (initE pm N.length ds) := by
  obtain ⟨l1, l2⟩ := A.len
  have hst : ∀ {i : Nat} {v : V}, vs[i]? = some v → (L2.start N vs)[i]? = some (some v) := fun {i v} h => by
    have hi := (List.getElem?_eq_some_iff.mp h).1
    unfold L2.start
    rw [List.getElem?_append_left (by rw [List.length_map]; exact hi), List.getElem?_map, h]
    rfl
  refine ⟨same_cut, fh, ?_, fun {i d} h => ?_, fun {i m d} h => ?_, fun {i j m m' d d' a} h1 h2 p1 p2 => ?_⟩
  · unfold L2.start initE
    rw [List.length_append, List.length_append, List.length_map, List.length_zipWith, List.length_replicate, List.length_replicate, l1, l2, Nat.min_self]
  · rcases getElem_init (l1.trans l2) h with ⟨hi, h⟩ | h
    · obtain ⟨m, v, d', h1, h2, h3, h4⟩ := A.at h
      cases m with
      | true => cases h3
      | false =>
        cases h3
        exact ⟨v, hst h2, h4⟩
    · cases h
  · rcases getElem_init (l1.trans l2) h with ⟨hi, h⟩ | h
    · obtain ⟨m', v, d', h1, h2, h3, h4⟩ := A.at h
      cases m' with
      | false => cases h3
      | true =>
        cases h3
        obtain ⟨a, rfl, h5, h6⟩ := h4
        refine ⟨a, hst h2, h5, cut_in (mAdr_mem (F := F) (H := H) h1 h2), h6, fun _ => ?_⟩
        show a = (match vs[i]? with
          | some (.ref a) => a
          | _ => 0)
        rw [h2]
    · cases h
  · have g : ∀ {i m d}, (initE pm N.length ds)[i]? = some (Sl.ow m d) → (L2.start N vs)[i]? = some (some (V.ref a)) → pm[i]? = some true ∧ vs[i]? = some (V.ref a) := fun {i m d} h p => by
      rcases getElem_init (l1.trans l2) h with ⟨hi, h⟩ | h
      · obtain ⟨m', v, d', q1, q2, q3, q4⟩ := A.at h
        cases m' with
        | false => cases q3
        | true =>
          have := hst q2
          rw [this] at p
          cases p
          exact ⟨q1, q2⟩
      · cases h
    obtain ⟨a1, a2⟩ := g h1 p1
    obtain ⟨b1, b2⟩ := g h2 p2
    exact mAdr_inj nd a1 a2 b1 b2
theorem muts_ok {c : Bx} {F H : Hp} : ∀ {pm : List Bool} {vs : List V} {e : En} {ms : List D} (k : Nat),
    (∀ {i : Nat} {d : D}, e[i]? = some (.ow true d) → ∃ a, F a = none ∧ Own S F H a d ∧ a = c.ma (k + i)) → (∀ i, pm[i]? = some true → vs[i]? = some (V.ref (c.ma (k + i)))) → pm.length = vs.length → muts pm e = some ms → MutsD S F H pm vs ms
  | [], [], e, ms, k, _, _, _, h => by
    have h' : some [] = some ms := h
    cases h'
    exact .nil
  | false :: pm, v :: vs, [], ms, k, _, _, _, h => by cases h
  | false :: pm, v :: vs, s :: e, ms, k, ok, hv, hl, h => .keep (muts_ok (k + 1) (fun {i d} q => by
      obtain ⟨a, h1, h2, h3⟩ := ok (i := i + 1) (d := d) (by simpa using q)
      exact ⟨a, h1, h2, by rw [h3]; congr 1; omega⟩) (fun i q => by
      have := hv (i + 1) (by simpa using q)
      rw [show k + (i + 1) = k + 1 + i by omega] at this
      simpa using this) (by simpa using hl) h)
  | true :: pm, v :: vs, [], ms, k, _, _, _, h => by cases h
  | true :: pm, v :: vs, s :: e, ms, k, ok, hv, hl, h => by
    unfold muts at h
    cases z : muts pm e with
    | none =>
      rw [z] at h
      cases s with
      | ow m d => cases m <;> cases h
      | _ => cases h
    | some ds =>
      rw [z] at h
      cases s with
      | ow m d =>
        cases m with
        | false => cases h
        | true =>
          cases h
          obtain ⟨a, h1, h2, h3⟩ := ok (i := 0) (d := d) rfl
          have hv0 := hv 0 rfl
          have ev : v = .ref (c.ma (k + 0)) := by simpa using hv0
          subst ev
          subst h3
          exact .chg h1 h2 (muts_ok (k + 1) (fun {i d} q => by
            obtain ⟨a, h1, h2, h3⟩ := ok (i := i + 1) (d := d) (by simpa using q)
            exact ⟨a, h1, h2, by rw [h3]; congr 1; omega⟩) (fun i q => by
            have := hv (i + 1) (by simpa using q)
            rw [show k + (i + 1) = k + 1 + i by omega] at this
            simpa using this) (by simpa using hl) z)
      | _ => cases h
  | [], _ :: _, _, _, _, _, _, h, _ => by cases h
  | _ :: _, [], _, _, _, _, _, h, _ => by cases h
theorem fin_of {F F' H H' : Hp} {pm : List Bool} {vs : List V} {ds ms : List D} {σ : L2.St} {e : En} (A : ArgsD S F H pm vs ds) (r : Rel S (bxOf H pm vs) F' H' σ e) (g : Gr (bxOf H pm vs) F F') (hm : muts pm e = some ms) : Fin S F H pm vs ms F' H' := by
  obtain ⟨l1, l2⟩ := A.len
  have mm : MutsD S F' H' pm vs ms := by
    refine muts_ok (c := bxOf H pm vs) 0 (fun {i d} q => ?_) (fun i q => ?_) l1 hm
    · obtain ⟨a, h1, h2, h3, h4, h5⟩ := r.ow q
      exact ⟨a, h2, h4, by rw [Nat.zero_add]; exact h5 rfl⟩
    · have hi : i < vs.length := by rw [← l1]; exact (List.getElem?_eq_some_iff.mp q).1
      have hz : i < (List.zipWith slotOf pm ds).length := by rw [List.length_zipWith, l1, l2, Nat.min_self, ← l2]; exact hi
      obtain ⟨m, v, d, h1, h2, h3, h4⟩ := A.at (List.getElem?_eq_getElem hz)
      rw [q] at h1
      cases h1
      obtain ⟨a, rfl, _, _⟩ := h4
      rw [h2, Nat.zero_add]
      show some (V.ref a) = some (V.ref (match vs[i]? with
        | some (.ref a) => a
        | _ => 0))
      rw [h2]
  refine ⟨g.1, r.fh, fun a h n => ?_, fun a o h n => r.bh a o (by show cut H (mAdr pm vs) a = some o; rw [cut_out n]; exact h), mm⟩
  have hb : cut H (mAdr pm vs) a = none := g.2 a h n
  by_cases hin : a ∈ mAdr pm vs
  · -- a changed argument is not shared
    exfalso
    clear hb hm
    have key : ∀ {pm : List Bool} {vs : List V} {ms : List D}, MutsD S F' H' pm vs ms → a ∈ mAdr pm vs → F' a = none := fun {pm vs ms} M => by
      induction M with
      | nil => intro h; cases h
      | keep _ ih => exact fun h => ih h
      | chg h1 h2 _ ih =>
        intro h
        rcases List.mem_cons.mp h with q | q
        · rw [q]; exact h1
        · exact ih q
    exact n (key mm hin)
  · rw [cut_out hin] at hb
    exact hb
end
/-- THE RULE for a def -/
theorem fn_D {P : Program} {w : World} {K : PySem.W.Frag} {mg : Str → Option Value} {base : Heap} {k : Nat} {f : Addr} {fd : FuncData} {x qual : Str} {st : Stmt} {N ps : List Str} {pm : List Bool} {m : M Fl}
    (F : Fun K x qual st f fd) (Sc : FnScope N ps (defScope st)) (hp : ps.length = pm.length) (hN : pm.length ≤ N.length)
    (body : ∀ (cdv : Value) (A : Around) (outer : List Env) (s : Shared) (H : Hp) (E : XK), Room k (A.deeper (envOfC qual (defScope st) s.heap.objs.size f cdv)) →
      PSds (cxOf (L2.CX P w) P w K mg base N qual (defScope st) f cdv A outer s H E) (defBody st) m) :
    FnOk P w K mg base (L2.CX P w) (k + 1) f fd ps (spD (sgOf K mg) pm (runD pm N.length m)) := by
  refine F.okX Sc (fun vs H Q E h => ?_) (fun cdv A outer s H vs Q E hr h => ?_)
  · obtain ⟨F, ds, _, A, _⟩ := h
    rw [hp]
    exact A.len.1.symm
  · obtain ⟨F0, ds, fh, AD, nd, q⟩ := h
    obtain ⟨l1, l2⟩ := AD.len
    have hl : ds.length = pm.length := (l1.trans l2).symm
    have q2 : match endR pm (m (initE pm N.length ds)) with
      | .ok d ms => ∀ v F' H', Fin (sgOf K mg) F0 H pm vs ms F' H' → Dat (sgOf K mg) F' v d → Q v H'
      | .ex c fs ms => ∀ cls dd F' H', Fin (sgOf K mg) F0 H pm vs ms F' H' → ExD (sgOf K mg) F' H' cls dd c fs → E cls dd H'
      | .bad => False := by
      unfold runD at q
      rw [if_pos hl] at q
      exact q
    refine ⟨_, (body cdv A outer s H E hr).run (bxOf H pm vs) (fun cls d _ H => E cls d H) (takes_of rfl rfl rfl rfl) (passes_of rfl), F0, initE pm N.length ds, rel_init fh AD nd (by rw [hl]; exact hN), ?_⟩
    cases z : m (initE pm N.length ds) with
    | bad =>
      rw [z] at q2
      exact q2
    | ex n fs e =>
      rw [z] at q2
      have q3 : match (match muts pm e with
          | some ms => DR.ex n fs ms
          | none => DR.bad) with
        | .ok d ms => ∀ v F' H', Fin (sgOf K mg) F0 H pm vs ms F' H' → Dat (sgOf K mg) F' v d → Q v H'
        | .ex c fs ms => ∀ cls dd F' H', Fin (sgOf K mg) F0 H pm vs ms F' H' → ExD (sgOf K mg) F' H' cls dd c fs → E cls dd H'
        | .bad => False := q2
      cases hm : muts pm e with
      | none => rw [hm] at q3; exact q3.elim
      | some ms =>
        rw [hm] at q3
        exact fun cls dd σ' F' H' r g xd => q3 cls dd F' H' (fin_of AD r g hm) xd
    | ok fl e =>
      rw [z] at q2
      have fin : ∀ {d : D}, (match (match muts pm e with
          | some ms => DR.ok d ms
          | none => DR.bad) with
        | .ok d ms => ∀ v F' H', Fin (sgOf K mg) F0 H pm vs ms F' H' → Dat (sgOf K mg) F' v d → Q v H'
        | .ex c fs ms => ∀ cls dd F' H', Fin (sgOf K mg) F0 H pm vs ms F' H' → ExD (sgOf K mg) F' H' cls dd c fs → E cls dd H'
        | .bad => False) → ∀ v σ' F' H', Rel (sgOf K mg) (bxOf H pm vs) F' H' σ' e → Gr (bxOf H pm vs) F0 F' → Dat (sgOf K mg) F' v d → Q v H' := fun {d} q3 => by
        cases hm : muts pm e with
        | none => rw [hm] at q3; exact q3.elim
        | some ms =>
          rw [hm] at q3
          exact fun v σ' F' H' r g dv => q3 v F' H' (fin_of AD r g hm) dv
      cases fl with
      | rt d => exact fin (d := d) q2
      | nx => exact fun σ' F' H' r g => fin (d := .non) q2 .non σ' F' H' r g .non
      | bk => exact q2.elim
      | ct => exact q2.elim
end DP
set_option Elab.async false
set_option linter.all false
set_option maxRecDepth 100000
set_option maxHeartbeats 2000000
/-! DP7: calls of defs, list comprehensions. -/
namespace DP
open PySem PySem.Spec L2
open PyProof.Rows hiding St

/-- a def of the module's top -/
def DefOk (P : Program) (w : World) (K : PySem.W.Frag) (mg : Str → Option Value) (base : Heap) (k : Nat) (x : Str) (pm : List Bool) (den : List D → DR) : Prop :=
  ∃ f fd ps, mg x = some (.ref f) ∧ PySem.W.keepIn K (.ref f) = true ∧ Binds K fd ps [] ∧ FnOk P w K mg base (L2.CX P w) k f fd ps (spD (sgOf K mg) pm den)

def argsOf (e : En) : List Bool → List Op → Option (List D)
  | [], [] => some []
  | false :: pm, .va d :: os => match argsOf e pm os with
    | some ds => some (d :: ds)
    | none => none
  | true :: pm, .pl i :: os => match e[i]?, argsOf e pm os with
    | some (.ow _ d), some ds => some (d :: ds)
    | _, _ => none
  | _, _ => none
def mIx : List Bool → List Op → List Nat
  | true :: pm, .pl i :: os => i :: mIx pm os
  | _ :: pm, _ :: os => mIx pm os
  | _, _ => []
def setOw (i : Nat) (d : D) (e : En) : En := match e[i]? with
  | some (.ow m _) => e.set i (.ow m d)
  | _ => e
def wback : List Bool → List Op → List D → En → En
  | true :: pm, .pl i :: os, d :: ms, e => wback pm os ms (setOw i d e)
  | _ :: pm, _ :: os, ms, e => wback pm os ms e
  | _, _, _, e => e
def eCall (pm : List Bool) (den : List D → DR) (m : M (List Op)) : M D := fun e => (m e).bind fun os e => match argsOf e pm os with
  | some ds => if (mIx pm os).Nodup then match den ds with
      | .ok d ms => .ok d (wback pm os ms e)
      | .ex c fs ms => .ex c fs (wback pm os ms e)
      | .bad => .bad
    else .bad
  | none => .bad

section
variable {S : Sg} {c : Bx} {F H F' H' : Hp} {σ : L2.St} {e : En}
theorem setOw_len (i : Nat) (d : D) (e : En) : (setOw i d e).length = e.length := by
  unfold setOw
  split <;> simp
theorem setOw_get {i j : Nat} {d : D} {e : En} {s : Sl} (h : (setOw i d e)[j]? = some s) : (i = j ∧ ∃ m d', e[i]? = some (.ow m d') ∧ s = .ow m d) ∨ ((i ≠ j ∨ ∀ m d', e[i]? ≠ some (.ow m d')) ∧ e[j]? = some s) := by
  unfold setOw at h
  cases z : e[i]? with
  | none =>
    simp only [z] at h
    exact .inr ⟨.inr (fun _ _ q => by cases q), h⟩
  | some s' =>
    simp only [z] at h
    cases s' with
    | ow m d' =>
      by_cases hj : i = j
      · subst hj
        have hl : i < e.length := (List.getElem?_eq_some_iff.mp z).1
        rw [List.getElem?_set_self hl] at h
        cases h
        exact .inl ⟨rfl, m, d', rfl, rfl⟩
      · rw [List.getElem?_set_ne hj] at h
        exact .inr ⟨.inl hj, h⟩
    | _ => exact .inr ⟨.inr (fun _ _ q => by cases q), h⟩
/-- the arguments fit: shared ones are data, changed ones are slots that own -/
inductive Plc (e : En) : List Bool → List Op → List D → Prop
  | nil : Plc e [] [] []
  | sh {d : D} {pm : List Bool} {os : List Op} {ds : List D} : Plc e pm os ds → Plc e (false :: pm) (.va d :: os) (d :: ds)
  | mu {i : Nat} {m : Bool} {d : D} {pm : List Bool} {os : List Op} {ds : List D} : e[i]? = some (.ow m d) → Plc e pm os ds → Plc e (true :: pm) (.pl i :: os) (d :: ds)
theorem plc_of : ∀ {pm : List Bool} {os : List Op} {ds : List D}, argsOf e pm os = some ds → Plc e pm os ds
  | [], [], ds, h => by
    have h' : some [] = some ds := h
    cases h'
    exact .nil
  | false :: pm, .va d :: os, ds, h => by
    unfold argsOf at h
    cases z : argsOf e pm os with
    | none => rw [z] at h; cases h
    | some ds' =>
      rw [z] at h
      cases h
      exact .sh (plc_of z)
  | true :: pm, .pl i :: os, ds, h => by
    unfold argsOf at h
    cases z1 : e[i]? with
    | none => rw [z1] at h; cases h
    | some s =>
      cases z : argsOf e pm os with
      | none =>
        rw [z1, z] at h
        cases s <;> cases h
      | some ds' =>
        rw [z1, z] at h
        cases s with
        | ow m d =>
          cases h
          exact .mu z1 (plc_of z)
        | _ => cases h
  | [], _ :: _, _, h => by unfold argsOf at h; cases h
  | false :: pm, [], _, h => by unfold argsOf at h; cases h
  | true :: pm, [], _, h => by unfold argsOf at h; cases h
  | false :: pm, .pl i :: os, _, h => by unfold argsOf at h; cases h
  | true :: pm, .va d :: os, _, h => by unfold argsOf at h; cases h
theorem wback_get {e0 : En} {pm : List Bool} {os : List Op} {ds0 : List D} (P : Plc e0 pm os ds0) : ∀ {vs : List V} {ms : List D} {e : En}, Paired (fun v o => OpD S F σ v o) vs os → MutsD S F' H' pm vs ms → (wback pm os ms e).length = e.length ∧ ∀ {j : Nat} {s : Sl}, (wback pm os ms e)[j]? = some s →
    (∃ m d d' a, e[j]? = some (.ow m d) ∧ s = .ow m d' ∧ σ[j]? = some (some (V.ref a)) ∧ a ∈ mAdr pm vs ∧ F' a = none ∧ Own S F' H' a d') ∨ (e[j]? = some s ∧ ∀ m d, s = .ow m d → j ∉ mIx pm os) := by
  induction P with
  | nil =>
    intro vs ms e po mo
    cases po
    cases mo
    exact ⟨rfl, fun {j s} h => .inr ⟨h, fun _ _ _ q => by cases q⟩⟩
  | sh _ ih =>
    intro vs ms e po mo
    cases po with
    | cons ho ht =>
      cases mo with
      | keep mt =>
        obtain ⟨l, q⟩ := ih (e := e) ht mt
        refine ⟨l, fun {j s} h => ?_⟩
        rcases q h with ⟨m, d, d', a, h1, h2, h3, h4, h5, h6⟩ | ⟨h1, h2⟩
        · refine .inl ⟨m, d, d', a, h1, h2, h3, ?_, h5, h6⟩
          exact h4
        · exact .inr ⟨h1, h2⟩
  | @mu i mm dd pm os ds hi _ ih =>
    intro vs ms e po mo
    cases po with
    | cons ho ht =>
      cases mo with
      | @chg a d _ vs ms h1 h2 mt =>
        obtain ⟨l, q⟩ := ih (e := setOw i d e) ht mt
        have ho' : σ[i]? = some (some (V.ref a)) := ho
        refine ⟨l.trans (setOw_len _ _ _), fun {j s} h => ?_⟩
        rcases q h with ⟨m, d1, d', b, q1, q2, q3, q4, q5, q6⟩ | ⟨q1, q2⟩
        · rcases setOw_get q1 with ⟨rfl, m', d2, p1, p2⟩ | ⟨p1, p2⟩
          · cases p2
            exact .inl ⟨_, _, d', b, p1, q2, q3, List.mem_cons_of_mem _ q4, q5, q6⟩
          · exact .inl ⟨m, d1, d', b, p2, q2, q3, List.mem_cons_of_mem _ q4, q5, q6⟩
        · rcases setOw_get q1 with ⟨rfl, m', d2, p1, p2⟩ | ⟨p1, p2⟩
          · exact .inl ⟨m', d2, d, a, p1, p2, ho', List.mem_cons_self, h1, h2⟩
          · refine .inr ⟨p2, fun m d' hs hm => ?_⟩
            rcases List.mem_cons.mp hm with z | z
            · subst z
              subst hs
              rcases p1 with p1 | p1
              · exact p1 rfl
              · exact p1 _ _ p2
            · exact q2 m d' hs z
theorem adr_ix {pm : List Bool} {os : List Op} {ds : List D} (P : Plc e pm os ds) (r : Rel S c F H σ e) : ∀ {vs : List V}, Paired (fun v o => OpD S F σ v o) vs os →
    ArgsD S F H pm vs ds ∧ (∀ a ∈ mAdr pm vs, ∃ i m d, i ∈ mIx pm os ∧ e[i]? = some (.ow m d) ∧ σ[i]? = some (some (V.ref a))) ∧ ((mIx pm os).Nodup → (mAdr pm vs).Nodup) := by
  induction P with
  | nil =>
    intro vs po
    cases po
    exact ⟨.nil, (fun a h => by cases h), fun _ => List.nodup_nil⟩
  | sh _ ih =>
    intro vs po
    cases po with
    | cons ho ht =>
      obtain ⟨h1, h2, h3⟩ := ih ht
      exact ⟨.cons ho h1, h2, h3⟩
  | @mu i mm dd pm os ds hi _ ih =>
    intro vs po
    cases po with
    | @cons v _ vs _ ho ht =>
      obtain ⟨h1, h2, h3⟩ := ih ht
      obtain ⟨a, p1, p2, p3, p4, _⟩ := r.ow hi
      have ho' : σ[i]? = some (some v) := ho
      rw [p1] at ho'
      cases ho'
      refine ⟨.cons ⟨a, rfl, p2, p4⟩ h1, fun b hb => ?_, fun nd => ?_⟩
      · rcases List.mem_cons.mp hb with z | z
        · subst z
          exact ⟨i, mm, dd, List.mem_cons_self, hi, p1⟩
        · obtain ⟨j, m, d, q1, q2, q3⟩ := h2 b z
          exact ⟨j, m, d, List.mem_cons_of_mem _ q1, q2, q3⟩
      · have nd' : (i :: mIx pm os).Nodup := nd
        obtain ⟨n1, n2⟩ := List.nodup_cons.mp nd'
        refine List.nodup_cons.mpr ⟨fun hm => ?_, h3 n2⟩
        obtain ⟨j, m, d, q1, q2, q3⟩ := h2 a hm
        exact n1 (by rw [r.dis hi q2 p1 q3]; exact q1)
theorem rel_call {pm : List Bool} {os : List Op} {ds ms : List D} {vs : List V} (r : Rel S c F H σ e) (P : Plc e pm os ds) (po : Paired (fun v o => OpD S F σ v o) vs os) (nd : (mIx pm os).Nodup) (fi : Fin S F H pm vs ms F' H') :
    Rel S c F' H' σ (wback pm os ms e) ∧ Gr c F F' := by
  obtain ⟨A, ad, ndA⟩ := adr_ix P r po
  obtain ⟨l, gt⟩ := wback_get P (e := e) po fi.mu
  have nB : ∀ {a o}, c.B a = some o → a ∉ mAdr pm vs := fun {a o} q hm => by
    obtain ⟨i, m, d, q1, q2, q3⟩ := ad a hm
    obtain ⟨b, p1, p2, p3, _⟩ := r.ow q2
    rw [q3] at p1
    cases p1
    rw [q] at p3
    cases p3
  refine ⟨⟨fun a o q => fi.hh a o (r.bh a o q) (nB q), fi.fh, by rw [l]; exact r.len, fun {i d} h => ?_, fun {i m d} h => ?_, fun {i j m m' d d' a} h1 h2 p1 p2 => ?_⟩, fi.ff, fun a h n => ?_⟩
  · rcases gt h with ⟨m, d1, d', a, _, h2, _⟩ | ⟨h1, _⟩
    · cases h2
    · obtain ⟨v, q1, q2⟩ := r.fz h1
      exact ⟨v, q1, q2.mono fi.ff⟩
  · rcases gt h with ⟨m1, d1, d', a, h1, h2, h3, h4, h5, h6⟩ | ⟨h1, h2⟩
    · cases h2
      obtain ⟨b, p1, p2, p3, p4, p5⟩ := r.ow h1
      rw [h3] at p1
      cases p1
      exact ⟨a, h3, h5, p3, h6, p5⟩
    · obtain ⟨a, p1, p2, p3, p4, p5⟩ := r.ow h1
      have na : a ∉ mAdr pm vs := fun hm => by
        obtain ⟨j, m', d', q1, q2, q3⟩ := ad a hm
        have e1 := r.dis h1 q2 p1 q3
        exact h2 _ _ rfl (by rw [e1]; exact q1)
      refine ⟨a, p1, ?_, p3, p4.mono fi.ff fun o ho => fi.hh a o ho na, p5⟩
      cases z : F' a with
      | none => rfl
      | some o =>
        obtain ⟨u, hu⟩ := p4.there
        have := fi.nw a p2 (by rw [z]; exact fun w => by cases w)
        rw [hu] at this
        cases this
  · have g : ∀ {i m d}, (wback pm os ms e)[i]? = some (Sl.ow m d) → ∃ m' d', e[i]? = some (Sl.ow m' d') := fun {i m d} h => by
      rcases gt h with ⟨m1, d1, d', a, h1, h2, _⟩ | ⟨h1, _⟩
      · exact ⟨_, _, h1⟩
      · exact ⟨_, _, h1⟩
    obtain ⟨_, _, g1⟩ := g h1
    obtain ⟨_, _, g2⟩ := g h2
    exact r.dis g1 g2 p1 p2
  · have z := fi.nw a h n
    cases q : c.B a with
    | none => rfl
    | some o => rw [r.bh _ _ q] at z; cases z
end

section
variable {X : Cx} {e : Expr} {es : List Expr} {x : Str} {p pos : Pos}
theorem px_call {k : Nat} {pm : List Bool} {den : List D → DR} {m : M (List Op)} (G : DefOk X.prog X.w X.K X.mg X.base k x pm den) (hr : Room k X.A) (ha : PAr X (e :: es) m) (hg : Gl X x := by rfl) (hdb : (x == ("__debug__" : Str)) = false := by decide)
    (he : starEach (e :: es) X.env = (false, eval e X.env) :: starEach es X.env := by rfl) (hpl : (backTo pos (starEach es X.env)).any (·.1) = false := by rfl) : PX X (.Call (.Name x p) (e :: es) [] pos) (eCall pm den m) := by
  obtain ⟨f, fd, ps, hm, hk, hb, F⟩ := G
  refine ⟨fun c W tk => PE.imp (pe_callS F hr hg hm hk hb (fun σ => passAt tk σ) (ha.run c W tk) hdb he hpl) fun σ H Q ⟨F0, e0, r, q⟩ => ⟨F0, e0, r, ?_⟩⟩
  refine Okx.imp (Okx.bind q) fun os e1 k1 vs F1 H1 r1 g1 po => ?_
  cases z : argsOf e1 pm os with
  | none => simp only [z] at k1; exact k1.elim
  | some ds =>
    simp only [z] at k1
    by_cases nd : (mIx pm os).Nodup
    · rw [if_pos nd] at k1
      have P := plc_of z
      obtain ⟨A, _, ndA⟩ := adr_ix P r1 po
      refine ⟨F1, ds, r1.fh, A, ndA nd, ?_⟩
      cases zd : den ds with
      | bad => simp only [zd] at k1; exact k1.elim
      | ok d ms =>
        simp only [zd] at k1
        intro v F' H' fi dv
        obtain ⟨r2, g2⟩ := rel_call r1 P po nd fi
        exact k1 v F' H' r2 (g1.trans g2) dv
      | ex n fs ms =>
        simp only [zd] at k1
        intro cls dd F' H' fi xd
        obtain ⟨r2, g2⟩ := rel_call r1 P po nd fi
        exact k1 cls dd σ F' H' r2 (g1.trans g2) xd
    · rw [if_neg nd] at k1
      exact k1.elim
end
end DP
set_option Elab.async false
set_option linter.all false
set_option maxRecDepth 100000
set_option maxHeartbeats 2000000
/-! DP8: list comprehensions. -/
namespace DP
open PySem PySem.Spec L2
open PyProof.Rows hiding St

def wipeE (e : En) : List Nat → En
  | [] => e
  | v :: vs => (wipeE e vs).set v .no
def restore (e0 e : En) : List Nat → En
  | [] => e
  | v :: vs => match e0[v]? with
    | some s => (restore e0 e vs).set v s
    | none => restore e0 e vs
def noOw (e : En) (vs : List Nat) : Bool := vs.all fun v => match e[v]? with
  | some (.ow _ _) => false
  | _ => true
def lcL (vs : List Nat) (st : D → En → Option En) (cond : M Bool) (elt : M D) : List D → M (List D)
  | [] => fun e => .ok [] e
  | d :: ds => fun e => match st d (wipeE e vs) with
    | none => .bad
    | some e1 => match cond e1 with
      | .ok true e2 => (match elt e2 with
        | .ok y e3 => (match lcL vs st cond elt ds (restore e e3 vs) with
          | .ok ys e4 => .ok (y :: ys) e4
          | _ => .bad)
        | _ => .bad)
      | .ok false e2 => lcL vs st cond elt ds (restore e e2 vs)
      | _ => .bad
def nLc (m : M (List D)) (vs : List Nat) (st : D → En → Option En) (cond : M Bool) (elt : M D) : M D := fun e => (m e).bind fun ds e => if noOw e vs = true ∧ ds.length ≤ sizeLine then (match lcL vs st cond elt ds e with
  | .ok ys e' => .ok (.lst ys) e'
  | _ => .bad) else .bad
def bYes : M Bool := fun e => .ok true e

theorem wipe_get {σ : L2.St} {j : Nat} : ∀ {vs : List Nat}, j ∉ vs → (wipe σ vs)[j]? = σ[j]?
  | [], _ => rfl
  | v :: vs, h => by
    unfold wipe
    rw [List.getElem?_set_ne (fun z => h (by rw [z]; exact List.mem_cons_self)), wipe_get fun z => h (List.mem_cons_of_mem _ z)]
theorem wipe_in {σ : L2.St} {j : Nat} : ∀ {vs : List Nat}, j ∈ vs → j < σ.length → (wipe σ vs)[j]? = some none
  | [], h, _ => by cases h
  | v :: vs, h, hl => by
    unfold wipe
    by_cases hv : v = j
    · subst hv
      rw [List.getElem?_set_self (by rw [wipe_length]; exact hl)]
    · rw [List.getElem?_set_ne hv]
      rcases List.mem_cons.mp h with z | z
      · exact absurd z.symm hv
      · exact wipe_in z hl
theorem wipe_eq {σ τ : L2.St} {vs : List Nat} (hl : σ.length = τ.length) (h : ∀ j, j ∉ vs → σ[j]? = τ[j]?) : wipe σ vs = wipe τ vs := by
  refine List.ext_getElem? fun j => ?_
  by_cases hj : j ∈ vs
  · by_cases hb : j < σ.length
    · rw [wipe_in hj hb, wipe_in hj (by rw [← hl]; exact hb)]
    · rw [List.getElem?_eq_none (by rw [wipe_length]; omega), List.getElem?_eq_none (by rw [wipe_length]; omega)]
  · rw [wipe_get hj, wipe_get hj, h j hj]
theorem wipeE_len {e : En} : ∀ {vs : List Nat}, (wipeE e vs).length = e.length
  | [] => rfl
  | v :: vs => by unfold wipeE; rw [List.length_set, wipeE_len]
theorem wipeE_get {e : En} {j : Nat} {s : Sl} : ∀ {vs : List Nat}, (wipeE e vs)[j]? = some s → s = .no ∨ (j ∉ vs ∧ e[j]? = some s)
  | [], h => .inr ⟨by simp, h⟩
  | v :: vs, h => by
    unfold wipeE at h
    by_cases hv : v = j
    · subst hv
      have hl : v < (wipeE e vs).length := by
        have := (List.getElem?_eq_some_iff.mp h).1
        simpa using this
      rw [List.getElem?_set_self hl] at h
      cases h
      exact .inl rfl
    · rw [List.getElem?_set_ne hv] at h
      rcases wipeE_get h with z | ⟨z1, z2⟩
      · exact .inl z
      · exact .inr ⟨fun q => by
          rcases List.mem_cons.mp q with w | w
          · exact hv w.symm
          · exact z1 w, z2⟩
theorem restore_len {e0 e : En} : ∀ {vs : List Nat}, (restore e0 e vs).length = e.length
  | [] => rfl
  | v :: vs => by
    unfold restore
    cases e0[v]? with
    | none => exact restore_len
    | some s => rw [List.length_set]; exact restore_len
theorem restore_get {e0 e : En} {j : Nat} {s : Sl} (hl : e0.length = e.length) : ∀ {vs : List Nat}, (restore e0 e vs)[j]? = some s → (j ∈ vs ∧ e0[j]? = some s) ∨ (j ∉ vs ∧ e[j]? = some s)
  | [], h => .inr ⟨by simp, h⟩
  | v :: vs, h => by
    unfold restore at h
    cases z : e0[v]? with
    | none =>
      rw [z] at h
      rcases restore_get hl h with ⟨z1, z2⟩ | ⟨z1, z2⟩
      · exact .inl ⟨List.mem_cons_of_mem _ z1, z2⟩
      · refine .inr ⟨fun q => ?_, z2⟩
        rcases List.mem_cons.mp q with w | w
        · subst w
          have h1 := List.getElem?_eq_none_iff.mp z
          have h2 := (List.getElem?_eq_some_iff.mp z2).1
          omega
        · exact z1 w
    | some s' =>
      rw [z] at h
      by_cases hv : v = j
      · subst hv
        have hb : v < (restore e0 e vs).length := by
          have := (List.getElem?_eq_some_iff.mp h).1
          simpa using this
        rw [List.getElem?_set_self hb] at h
        cases h
        exact .inl ⟨List.mem_cons_self, z⟩
      · rw [List.getElem?_set_ne hv] at h
        rcases restore_get hl h with ⟨z1, z2⟩ | ⟨z1, z2⟩
        · exact .inl ⟨List.mem_cons_of_mem _ z1, z2⟩
        · exact .inr ⟨fun q => by
            rcases List.mem_cons.mp q with w | w
            · exact hv w.symm
            · exact z1 w, z2⟩
section
variable {S : Sg} {c : Bx} {F F' H H' : Hp} {σ σ' : L2.St} {e e' : En} {vs : List Nat}
theorem Rel.wipe (r : Rel S c F H σ e) (vs : List Nat) : Rel S c F H (wipe σ vs) (wipeE e vs) := by
  refine ⟨r.bh, r.fh, by rw [wipe_length, wipeE_len]; exact r.len, fun {i d} h => ?_, fun {i m d} h => ?_, fun {i j m m' d d' a} h1 h2 p1 p2 => ?_⟩
  · rcases wipeE_get h with z | ⟨z1, z2⟩
    · cases z
    · rw [wipe_get z1]; exact r.fz z2
  · rcases wipeE_get h with z | ⟨z1, z2⟩
    · cases z
    · rw [wipe_get z1]; exact r.ow z2
  · rcases wipeE_get h1 with z | ⟨z1, z2⟩
    · cases z
    · rcases wipeE_get h2 with y | ⟨y1, y2⟩
      · cases y
      · rw [wipe_get z1] at p1
        rw [wipe_get y1] at p2
        exact r.dis z2 y2 p1 p2
theorem noOw_at {v : Nat} (h : noOw e vs = true) (hv : v ∈ vs) (m : Bool) (d : D) : e[v]? ≠ some (.ow m d) := fun q => by
  have z := List.all_eq_true.mp h v hv
  rw [q] at z
  cases z
theorem noOw_restore (hl : e.length = e'.length) (h : noOw e vs = true) : noOw (restore e e' vs) vs = true := by
  refine List.all_eq_true.mpr fun v hv => ?_
  cases z : (restore e e' vs)[v]? with
  | none => rfl
  | some s =>
    cases s with
    | ow m d =>
      rcases restore_get hl z with ⟨_, q⟩ | ⟨q, _⟩
      · exact absurd q (noOw_at h hv m d)
      · exact absurd hv q
    | _ => rfl
theorem Rel.restore (r0 : Rel S c F H σ e) (r : Rel S c F' H' σ' e') (g : Same F F') (hn : noOw e vs = true) (hw : L2.wipe σ' vs = L2.wipe σ vs) : Rel S c F' H' σ (restore e e' vs) := by
  have hsl : σ'.length = σ.length := by
    have := congrArg List.length hw
    rw [wipe_length, wipe_length] at this
    exact this
  have hl : e.length = e'.length := by rw [← r0.len, ← r.len, hsl]
  have hs : ∀ {j}, j ∉ vs → σ'[j]? = σ[j]? := fun {j} hj => by
    rw [← wipe_get (σ := σ') hj, ← wipe_get (σ := σ) hj, hw]
  refine ⟨r.bh, r.fh, by rw [restore_len, ← r.len, hsl], fun {i d} h => ?_, fun {i m d} h => ?_, fun {i j m m' d d' a} h1 h2 p1 p2 => ?_⟩
  · rcases restore_get hl h with ⟨_, q⟩ | ⟨q1, q2⟩
    · obtain ⟨v, h1, h2⟩ := r0.fz q
      exact ⟨v, h1, h2.mono g⟩
    · rw [← hs q1]; exact r.fz q2
  · rcases restore_get hl h with ⟨q0, q⟩ | ⟨q1, q2⟩
    · exact absurd q (noOw_at hn q0 m d)
    · rw [← hs q1]; exact r.ow q2
  · rcases restore_get hl h1 with ⟨q0, q⟩ | ⟨q1, q2⟩
    · exact absurd q (noOw_at hn q0 m d)
    · rcases restore_get hl h2 with ⟨y0, y⟩ | ⟨y1, y2⟩
      · exact absurd y (noOw_at hn y0 m' d')
      · rw [← hs q1] at p1
        rw [← hs y1] at p2
        exact r.dis q2 y2 p1 p2
/-- the frame that holds the list in the making -/
def with1 (c : Bx) (p : Addr) (o : HO) : Bx := ⟨upd c.B p o, c.ma⟩
theorem Rel.hold {p : Addr} {o : HO} (r : Rel S c F H σ e) (hp : H p = none) : Rel S (with1 c p o) F (upd H p o) σ e := by
  have nF : ∀ {b u}, F b = some u → b ≠ p := fun q z => by have := r.fh _ _ q; rw [z, hp] at this; cases this
  refine ⟨fun b u q => ?_, fun b u q => by rw [upd_ne (nF q)]; exact r.fh _ _ q, r.len, r.fz, fun {i m d} h => ?_, r.dis⟩
  · by_cases hb : b = p
    · subst hb
      have q' : upd c.B b o b = some u := q
      rw [upd_same] at q' ⊢
      exact q'
    · have q' : upd c.B p o b = some u := q
      rw [upd_ne hb] at q' ⊢
      exact r.bh _ _ q'
  · obtain ⟨a, h1, h2, h3, h4, h5⟩ := r.ow h
    obtain ⟨u, hu⟩ := h4.there
    have na : a ≠ p := fun z => by rw [z, hp] at hu; cases hu
    exact ⟨a, h1, h2, by show upd c.B p o a = none; rw [upd_ne na]; exact h3, h4.mono (Same.refl _) fun w hw => by rw [upd_ne na]; exact hw, h5⟩
theorem Rel.grow {p : Addr} {o o' : HO} (r : Rel S (with1 c p o) F H σ e) (hF : F p = none) : Rel S (with1 c p o') F (upd H p o') σ e := by
  have nF : ∀ {b u}, F b = some u → b ≠ p := fun q z => by rw [z, hF] at q; cases q
  refine ⟨fun b u q => ?_, fun b u q => by rw [upd_ne (nF q)]; exact r.fh _ _ q, r.len, r.fz, fun {i m d} h => ?_, r.dis⟩
  · by_cases hb : b = p
    · subst hb
      have q' : upd c.B b o' b = some u := q
      rw [upd_same] at q' ⊢
      exact q'
    · have q' : upd c.B p o' b = some u := q
      rw [upd_ne hb] at q' ⊢
      exact r.bh _ _ (by show upd c.B p o b = some u; rw [upd_ne hb]; exact q')
  · obtain ⟨a, h1, h2, h3, h4, h5⟩ := r.ow h
    have h3' : upd c.B p o a = none := h3
    have na : a ≠ p := fun z => by rw [z, upd_same] at h3'; cases h3'
    rw [upd_ne na] at h3'
    exact ⟨a, h1, h2, by show upd c.B p o' a = none; rw [upd_ne na]; exact h3', h4.mono (Same.refl _) fun w hw => by rw [upd_ne na]; exact hw, h5⟩
theorem Rel.drop {p : Addr} {o : HO} (r : Rel S (with1 c p o) F H σ e) (hF : F p = none) (hB : c.B p = none) : Rel S c F (delH H p) σ e := by
  have nF : ∀ {b u}, F b = some u → b ≠ p := fun q z => by rw [z, hF] at q; cases q
  have nB : ∀ {b u}, c.B b = some u → b ≠ p := fun q z => by rw [z, hB] at q; cases q
  refine ⟨fun b u q => ?_, fun b u q => by rw [delH_ne (nF q)]; exact r.fh _ _ q, r.len, r.fz, fun {i m d} h => ?_, r.dis⟩
  · rw [delH_ne (nB q)]
    exact r.bh _ _ (by show upd c.B p o b = some u; rw [upd_ne (nB q)]; exact q)
  · obtain ⟨a, h1, h2, h3, h4, h5⟩ := r.ow h
    have h3' : upd c.B p o a = none := h3
    have na : a ≠ p := fun z => by rw [z, upd_same] at h3'; cases h3'
    rw [upd_ne na] at h3'
    exact ⟨a, h1, h2, h3', h4.mono (Same.refl _) fun w hw => by rw [delH_ne na]; exact hw, h5⟩
theorem Gr.with1 {p : Addr} {o : HO} (g : Gr (with1 c p o) F F') (hB : c.B p = none) (hF : F p = none) : Gr c F F' ∧ F' p = none := by
  refine ⟨⟨g.1, fun a h n => ?_⟩, ?_⟩
  · have := g.2 a h n
    have q : upd c.B p o a = none := this
    by_cases ha : a = p
    · rw [ha]; exact hB
    · rw [upd_ne ha] at q; exact q
  · cases z : F' p with
    | none => rfl
    | some u =>
      have q : upd c.B p o p = none := g.2 p hF (by rw [z]; exact fun w => by cases w)
      rw [upd_same] at q
      cases q
end
section
variable {X : Cx} {elt tg iter : Expr} {pos : Pos}
structure PTd (X : Cx) (ifs : List Expr) (m : M Bool) : Prop where
  run : ∀ c W, Takes X W → PTs X ifs (tT (Sx X) c W m)
theorem ptd_nil : PTd X [] bYes := ⟨fun c W tk => ⟨fun pins s σ H Q I ⟨F, e, r, k⟩ => pts_nil.run pins s σ H Q I (k F H r Gr.refl)⟩⟩
theorem ptd_one {t : Expr} {m : M Bool} (h : PB X t m) : PTd X [t] m := ⟨fun c W tk => pts_one (h.run c W tk)⟩
abbrev W0 : WX := fun _ _ _ _ => False
/-- the reading of a comprehension, from its program of data -/
theorem lc_read {S : Sg} {c : Bx} {W : WX} {m : M (List D)} {is vs : List Nat} {st : D → En → Option En} {cond : M Bool} {y : M D} {σ : L2.St} {H : Hp} {Q : VK} (his : ∀ i ∈ is, i ∈ vs)
    (h : tN S c W (nLc m vs st cond y) σ H Q) :
    (∃ F e, Rel S c F H σ e ∧ Okx S c W F (m e) fun ds e1 => ∀ J F1 H1, Rel S c F1 H1 σ e1 → Gr c F F1 → ItOk S F1 J ds → ∀ p, H1 p = none → ∃ Wn : Nat → Nat → Hp → Prop, (∃ m, Wn 0 m (upd H1 p (.lst []))) ∧ ∀ i m H, Wn i m H →
      (J.stop i H ∧ Q (.ref p) H) ∨ (J.go i H ∧ ∃ Nx : Hp → Prop, (∀ H', Nx H' → ∃ m', m' < m ∧ Wn (i + 1) m' H') ∧ ∀ x H', J.yld i H x H' → ∃ c', tG S c' is st x (L2.wipe σ vs) H' fun σ2 H2 => L2.wipe σ2 vs = L2.wipe σ vs ∧ tT S c' W0 cond σ2 H2 fun b H3 =>
        if b = true then tX S c' W0 y σ2 H3 fun z H4 => ∃ acc, H4 p = some (.lst acc) ∧ acc.length < sizeLine ∧ Nx (upd H4 p (.lst (acc ++ [z]))) else Nx H3)) := by
  obtain ⟨F, e, r, k⟩ := h
  refine ⟨F, e, r, Okx.imp (Okx.bind k) fun ds e1 k1 J F1 H1 r1 g1 ok p hp => ?_⟩
  by_cases hc : noOw e1 vs = true ∧ ds.length ≤ sizeLine
  · rw [if_pos hc] at k1
    obtain ⟨hno, hlen⟩ := hc
    cases z : lcL vs st cond y ds e1 with
    | bad => rw [z] at k1; exact k1.elim
    | ex n fs e' => rw [z] at k1; exact k1.elim
    | ok ys e' =>
      rw [z] at k1
      have hB : c.B p = none := Same.free r1.bh hp
      have hF1 : F1 p = none := Same.free r1.fh hp
      refine ⟨fun i m H => i + m = ds.length ∧ ∃ F2 e2 acc accV yr, Rel S (with1 c p (.lst accV)) F2 H σ e2 ∧ F2 p = none ∧ Gr c F1 F2 ∧ noOw e2 vs = true ∧ Dats S F2 accV acc ∧ acc.length ≤ i ∧ lcL vs st cond y (ds.drop i) e2 = .ok yr e' ∧ ys = acc ++ yr,
        ⟨ds.length, Nat.zero_add _, F1, e1, [], [], ys, r1.hold hp, hF1, Gr.refl, hno, .nil, Nat.zero_le _, z, rfl⟩, fun i m H hW => ?_⟩
      obtain ⟨him, F2, e2, acc, accV, yr, r2, hF2, g2, hno2, dacc, hai, hl, hys⟩ := hW
      have okk := ok F2 H g2.1 r2.fh i
      by_cases hlt : i < ds.length
      · refine .inr ?_
        have hd : ds[i]? = some ds[i] := List.getElem?_eq_getElem hlt
        obtain ⟨hgo, hy⟩ := okk.1 _ hd
        have edrop : ds.drop i = ds[i] :: ds.drop (i + 1) := List.drop_eq_getElem_cons hlt
        rw [edrop] at hl
        unfold lcL at hl
        cases z1 : st ds[i] (wipeE e2 vs) with
        | none => rw [z1] at hl; cases hl
        | some e3 =>
          rw [z1] at hl
          refine ⟨hgo, fun H' => i + 1 + (m - 1) = ds.length ∧ ∃ F2 e2 acc accV yr, Rel S (with1 c p (.lst accV)) F2 H' σ e2 ∧ F2 p = none ∧ Gr c F1 F2 ∧ noOw e2 vs = true ∧ Dats S F2 accV acc ∧ acc.length ≤ i + 1 ∧ lcL vs st cond y (ds.drop (i + 1)) e2 = .ok yr e' ∧ ys = acc ++ yr,
            fun H' hN => ⟨m - 1, by omega, hN⟩, fun x H' hyx => ⟨with1 c p (.lst accV), ?_⟩⟩
          obtain ⟨F3, ext, dx⟩ := hy x H' hyx
          have r3 := r2.ext ext
          have g3 := r2.gr ext
          refine ⟨F3, wipeE e2 vs, ds[i], e3, r3.wipe vs, dx, z1, fun σ4 F4 H4 r4 g4 ag => ?_⟩
          have hw4 : L2.wipe σ4 vs = L2.wipe σ vs := by
            refine wipe_eq (by rw [ag.1, wipe_length]) fun j hj => ?_
            rw [ag.2 j fun q => hj (his j q), wipe_get hj]
          refine ⟨hw4, F4, e3, r4, ?_⟩
          cases zc : cond e3 with
          | bad => simp only [zc] at hl; cases hl
          | ex n fs e' => simp only [zc] at hl; cases hl
          | ok b e5 =>
            cases b with
            | false =>
              simp only [zc] at hl
              refine fun F5 H5 r5 g5 => iteF ?_
              obtain ⟨g3', hF3⟩ := g3.with1 hB hF2
              obtain ⟨g4', hF4⟩ := g4.with1 hB hF3
              obtain ⟨g5', hF5⟩ := g5.with1 hB hF4
              have gg := g3'.trans (g4'.trans g5')
              exact ⟨by omega, F5, restore e2 e5 vs, acc, accV, yr, Rel.restore r2 r5 gg.1 hno2 hw4, hF5, g2.trans gg, noOw_restore (by rw [← r2.len, ← r5.len]; have := congrArg List.length hw4; rw [wipe_length, wipe_length] at this; exact this.symm) hno2, dacc.mono gg.1, by omega, hl, hys⟩
            | true =>
              simp only [zc] at hl
              refine fun F5 H5 r5 g5 => iteT ⟨F5, e5, r5, ?_⟩
              cases zy : y e5 with
              | bad => simp only [zy] at hl; cases hl
              | ex n fs e' => simp only [zy] at hl; cases hl
              | ok yv e6 =>
                simp only [zy] at hl
                cases zl : lcL vs st cond y (ds.drop (i + 1)) (restore e2 e6 vs) with
                | bad => rw [zl] at hl; cases hl
                | ex n fs e' => rw [zl] at hl; cases hl
                | ok yr' e7 =>
                  rw [zl] at hl
                  cases hl
                  intro v F6 H6 r6 g6 dv
                  obtain ⟨g3', hF3⟩ := g3.with1 hB hF2
                  obtain ⟨g4', hF4⟩ := g4.with1 hB hF3
                  obtain ⟨g5', hF5⟩ := g5.with1 hB hF4
                  obtain ⟨g6', hF6⟩ := g6.with1 hB hF5
                  have gg := g3'.trans (g4'.trans (g5'.trans g6'))
                  have hHp : H6 p = some (.lst accV) := r6.bh p _ (by show upd c.B p _ p = _; rw [upd_same])
                  have hrr := Rel.restore r2 r6 gg.1 hno2 hw4
                  refine ⟨accV, hHp, by rw [dacc.length]; omega, by omega, F6, restore e2 e6 vs, acc ++ [yv], accV ++ [v], yr', hrr.grow hF6, hF6, g2.trans gg, noOw_restore (by rw [← r2.len, ← r6.len]; have := congrArg List.length hw4; rw [wipe_length, wipe_length] at this; exact this.symm) hno2,
                    (dacc.mono gg.1).append (Dats.one dv), by rw [List.length_append]; show acc.length + 1 ≤ i + 1; omega, zl, by rw [hys, List.append_assoc]; rfl⟩
      · refine .inl ⟨okk.2 (Nat.le_of_not_lt hlt), ?_⟩
        rw [List.drop_of_length_le (Nat.le_of_not_lt hlt)] at hl
        unfold lcL at hl
        cases hl
        rw [List.append_nil] at hys
        subst hys
        have hHp : H p = some (.lst accV) := r2.bh p _ (by show upd c.B p _ p = _; rw [upd_same])
        refine k1 p F2 H (delH H p) (r2.drop hF2 hB) (g1.trans g2) delH_same (fun b u q => ?_) r2.fh ⟨accV, hHp, dacc, by omega⟩
        by_cases hb : b = p
        · rw [hb, delH_same] at q; cases q
        · rw [delH_ne hb] at q; exact q
  · rw [if_neg hc] at k1
    exact k1.elim
theorem lc_goal {X : Cx} {c : Bx} {W : WX} {tgE : TG} {m : M (List D)} {is vs : List Nat} {st : D → En → Option En} {cond : M Bool} {y : M D} {wi : TI} {g : TG} {tt : TT} {te : TE} {σ : L2.St} {H : Hp} {Q : VK} (his : ∀ i ∈ is, i ∈ vs)
    (hw : ∀ σ H R, tI (Sx X) c W m σ H R → wi σ H R) (hg : ∀ c' v σ H Q, tG (Sx X) c' is st v σ H Q → g v σ H Q) (ht : ∀ c' σ H Q, tT (Sx X) c' W0 cond σ H Q → tt σ H Q) (he : ∀ c' σ H Q, tX (Sx X) c' W0 y σ H Q → te σ H Q)
    (h : tN (Sx X) c W (nLc m vs st cond y) σ H Q) : tLc wi g tt te vs σ H Q := by
  obtain ⟨F, e, r, k⟩ := lc_read his h
  refine hw _ _ _ ⟨F, e, r, Okx.imp k fun ds e1 k1 J F1 H1 r1 g1 ok => fun p hp => ?_⟩
  obtain ⟨Wn, h0, hs⟩ := k1 J F1 H1 r1 g1 ok p hp
  refine ⟨Wn, h0, fun i m H hW => ?_⟩
  rcases hs i m H hW with q | ⟨q1, Nx, q2, q3⟩
  · exact .inl q
  · refine .inr ⟨q1, Nx, q2, fun x H' hy => ?_⟩
    obtain ⟨c', q4⟩ := q3 x H' hy
    refine hg c' _ _ _ _ ?_
    obtain ⟨F2, e2, d, e3, p1, p2, p3, p4⟩ := q4
    refine ⟨F2, e2, d, e3, p1, p2, p3, fun σ' F' H' z1 z2 z3 => ?_⟩
    obtain ⟨w1, w2⟩ := p4 σ' F' H' z1 z2 z3
    refine ⟨w1, ht c' _ _ _ ?_⟩
    obtain ⟨F3, e3', y1, y2⟩ := w2
    refine ⟨F3, e3', y1, Okx.imp y2 fun b e4 y3 F4 H4 y4 y5 => ?_⟩
    have y6 := y3 F4 H4 y4 y5
    cases b with
    | false => exact y6
    | true =>
      simp only [if_true] at y6
      exact iteT (he c' _ _ _ y6)
theorem pn_lc {m : M (List D)} {is : List Nat} {st : D → En → Option En} {cond : M Bool} {y : M D} {scope : Scope} {own : List (Str × Nat)} {ifs : List Expr} (hN : X.N.Nodup) (hc : X.calm = true) (hi : PIt X tg iter m) (ok : BlkOk X.N X.env.scope scope own)
    (hg : ∀ (s : Shared) (H : Hp) (C : Addr) (cl : List (Str × Addr)) (fp : List Addr), PGd (X.blk s H scope (compEnvC scope cl C X.env) fp) tg is st)
    (ht : ∀ (s : Shared) (H : Hp) (C : Addr) (cl : List (Str × Addr)) (fp : List Addr), PTd (X.blk s H scope (compEnvC scope cl C X.env) fp) ifs cond)
    (he : ∀ (s : Shared) (H : Hp) (C : Addr) (cl : List (Str × Addr)) (fp : List Addr), PX (X.blk s H scope (compEnvC scope cl C X.env) fp) elt y) (his : ∀ i ∈ is, i ∈ own.map (·.2) := by decide) (hs : ∀ x, foldedSetIterable iter X.env x = pure x := by intro _; rfl) :
    PN X (.ListComp elt [⟨tg, iter, ifs, 0⟩] scope pos) (nLc m (own.map (·.2)) st cond y) := by
  refine ⟨fun c W tk => PE.imp (pe_lc (wi := fun σ H R => tI (Sx X) c W m σ H R) (g := fun v σ H Q => ∃ c', tG (Sx X) c' is st v σ H Q) (tt := fun σ H Q => ∃ c', tT (Sx X) c' W0 cond σ H Q) (te := fun σ H Q => ∃ c', tX (Sx X) c' W0 y σ H Q) hc hN (hi.run c W tk) ok
    (fun s H C cl fp => ⟨fun pins s' σ H' v u Q I r ⟨c', q⟩ => ((hg s H C cl fp).run c').run pins s' σ H' v u Q I r q⟩)
    (fun s H C cl fp => ⟨fun pins s' σ H' Q I ⟨c', q⟩ => ((ht s H C cl fp).run c' W0 takes0).run pins s' σ H' Q I q⟩)
    (fun s H C cl fp => ⟨fun pins s' σ H' Q I ⟨c', q⟩ => ((he s H C cl fp).run c' W0 takes0).run pins s' σ H' Q I q⟩) hs) fun σ H Q h => ?_⟩
  exact lc_goal (X := X) (c := c) (W := W) (tgE := fun _ _ _ _ => True) his (fun _ _ _ z => z) (fun c' _ _ _ _ z => ⟨c', z⟩) (fun c' _ _ _ z => ⟨c', z⟩) (fun c' _ _ _ z => ⟨c', z⟩) h
/-- name = [..] -/
theorem pd_lc (i : Nat) {x : Str} {py spos : Pos} {m : M (List D)} {is : List Nat} {st : D → En → Option En} {cond : M Bool} {y : M D} {scope : Scope} {own : List (Str × Nat)} {ifs : List Expr} (hN : X.N.Nodup) (hc : X.calm = true) (hi : PIt X tg iter m) (ok : BlkOk X.N X.env.scope scope own)
    (hsw : swapsWith (.ListComp elt [⟨tg, iter, ifs, 0⟩] scope pos) (some (.Name x py)) spos.line X.env = pure true)
    (hg : ∀ (s : Shared) (H : Hp) (C : Addr) (cl : List (Str × Addr)) (fp : List Addr), PGd (X.blk s H scope (compEnvC scope cl C X.env) fp) tg is st)
    (ht : ∀ (s : Shared) (H : Hp) (C : Addr) (cl : List (Str × Addr)) (fp : List Addr), PTd (X.blk s H scope (compEnvC scope cl C X.env) fp) ifs cond)
    (he : ∀ (s : Shared) (H : Hp) (C : Addr) (cl : List (Str × Addr)) (fp : List Addr), PX (X.blk s H scope (compEnvC scope cl C X.env) fp) elt y) (hy : X.N[i]? = some x := by rfl) (hyl : X.env.scope.names.lookup x = some .local := by rfl) (his : ∀ i ∈ is, i ∈ own.map (·.2) := by decide)
    (hs : ∀ x, foldedSetIterable iter X.env x = pure x := by intro _; rfl) :
    PSd X (.Assign [.Name x py] (.ListComp elt [⟨tg, iter, ifs, 0⟩] scope pos) spos) (sNew i (nLc m (own.map (·.2)) st cond y)) := by
  refine ⟨fun c W tk pw => PS.imp (ps_setLc (i := i) (wi := fun σ H R => tI (Sx X) c W m σ H R) (g := fun v σ H Q => ∃ c', tG (Sx X) c' is st v σ H Q) (tt := fun σ H Q => ∃ c', tT (Sx X) c' W0 cond σ H Q) (te := fun σ H Q => ∃ c', tX (Sx X) c' W0 y σ H Q) hc hN hy hyl hsw (hi.run c W tk) ok
    (fun s H C cl fp => ⟨fun pins s' σ H' v u Q I r ⟨c', q⟩ => ((hg s H C cl fp).run c').run pins s' σ H' v u Q I r q⟩)
    (fun s H C cl fp => ⟨fun pins s' σ H' Q I ⟨c', q⟩ => ((ht s H C cl fp).run c' W0 takes0).run pins s' σ H' Q I q⟩)
    (fun s H C cl fp => ⟨fun pins s' σ H' Q I ⟨c', q⟩ => ((he s H C cl fp).run c' W0 takes0).run pins s' σ H' Q I q⟩) hs) fun G σ H h => ?_⟩
  refine lc_goal (X := X) (c := c) (W := W) (tgE := fun _ _ _ _ => True) his (fun _ _ _ z => z) (fun c' _ _ _ _ z => ⟨c', z⟩) (fun c' _ _ _ z => ⟨c', z⟩) (fun c' _ _ _ z => ⟨c', z⟩) ?_
  obtain ⟨F, e, r, k⟩ := h
  refine ⟨F, e, r, Okx.imp (Okx.bind k) fun d e1 k1 p F1 H1 H0 r1 g1 hp hh fh ow => ?_⟩
  by_cases hf : free e1 i = true
  · rw [if_pos hf] at k1
    exact k1 _ F1 H1 (r1.setOw hp hh fh ow hf) g1
  · rw [if_neg hf] at k1
    exact k1.elim
end
end DP
set_option Elab.async false
set_option linter.all false
set_option maxRecDepth 100000
set_option maxHeartbeats 2000000
/-! DP9: operations of data. -/
namespace DP
open PySem PySem.Spec L2
open PyProof.Rows hiding St

section
variable {S : Sg} {F H : Hp}
theorem datR_int {v : V} {i : Int} (h : DatR S F H v (.int i)) : v = .int i := by
  rcases h with h | ⟨a, _, h⟩
  · cases h; rfl
  · exact h.elim
theorem datR_bl {v : V} {i : Bool} (h : DatR S F H v (.bl i)) : v = .bl i := by
  rcases h with h | ⟨a, _, h⟩
  · cases h; rfl
  · exact h.elim
theorem datR_non {v : V} (h : DatR S F H v .non) : v = .non := by
  rcases h with h | ⟨a, _, h⟩
  · cases h; rfl
  · exact h.elim
theorem datR_str {v : V} {x : Str} (h : DatR S F H v (.str x)) : v = .str x ∧ sOk x := by
  rcases h with h | ⟨a, _, h⟩
  · cases h with
    | str q => exact ⟨rfl, q⟩
  · exact h.elim
theorem datR_lst {v : V} {ds : List D} (fh : Same F H) (h : DatR S F H v (.lst ds)) : ∃ a xs, v = .ref a ∧ Rd H a (.lst xs) ∧ Dats S F xs ds ∧ ds.length ≤ sizeLine := by
  rcases h with h | ⟨a, e, xs, h1, h2, h3⟩
  · cases h with
    | lst h1 h2 h3 => exact ⟨_, _, rfl, Same.rd fh h1, h3, h2⟩
  · exact ⟨a, xs, e, .inl h1, h2, h3⟩
theorem datR_scr {v : V} {ns : List Int} (fh : Same F H) (h : DatR S F H v (.scr ns)) : ∃ a, v = .ref a ∧ SqL S.K H a (ns.map V.int) ∧ ns.length ≤ sizeLine := by
  rcases h with h | ⟨a, e, h⟩
  · cases h with
    | scr h1 h2 => exact ⟨_, rfl, L2.Same.seq fh h1, h2⟩
  · exact h.elim
theorem datR_tup {v : V} {ds : List D} (fh : Same F H) (h : DatR S F H v (.tup ds)) : ∃ a xs, v = .ref a ∧ SqT S.K H a xs ∧ Dats S F xs ds ∧ ds.length ≤ sizeLine ∧ Dat S F v (.tup ds) := by
  rcases h with h | ⟨a, e, h⟩
  · cases h with
    | tup h1 h2 h3 => exact ⟨_, _, rfl, Same.seqT fh h1, h3, h2, .tup h1 h2 h3⟩
  · exact h.elim
theorem sOk_cat {x y : Str} (hx : sOk x) (hy : sOk y) (h : x.length + y.length ≤ sizeLine) : sOk (x ++ y) := by
  refine ⟨?_, ?_⟩
  · show (x.cps ++ y.cps).size ≤ sizeLine
    rw [Array.size_append]
    exact h
  · have h1 := hx.2
    have h2 := hy.2
    unfold PyData.strOk at h1 h2 ⊢
    show (x.cps ++ y.cps).all _ = true
    rw [Array.all_append, h1, h2]
    rfl
end

/-! ### numbers -/
def opI (C : Int → Int → Bool) (g : Int → Int → D) : D → D → Option D
  | .int i, .int j => if C i j = true then some (g i j) else none
  | _, _ => none
theorem opI_some {C : Int → Int → Bool} {g : Int → Int → D} {a b d : D} (h : opI C g a b = some d) : ∃ i j, a = .int i ∧ b = .int j ∧ C i j = true ∧ d = g i j := by
  unfold opI at h
  split at h
  · rename_i i j
    by_cases hc : C i j = true
    · rw [if_pos hc] at h
      cases h
      exact ⟨i, j, rfl, rfl, hc, rfl⟩
    · rw [if_neg hc] at h
      cases h
  · cases h
theorem rD_int {S : Sg} {C : Int → Int → Bool} {Cp : Int → Int → Prop} {g : Int → Int → D} {gV : Int → Int → V} (hC : ∀ i j, C i j = true → Cp i j) (hg : ∀ F i j, Dat S F (gV i j) (g i j)) (x y : V) (H : Hp) (Q : VK) (h : rD S (opI C g) x y H Q) : rI Cp gV x y H Q := by
  obtain ⟨F, a, b, d, fh, da, db, e, q⟩ := h
  obtain ⟨i, j, rfl, rfl, hc, rfl⟩ := opI_some e
  exact ⟨i, j, datR_int da, datR_int db, hC i j hc, q _ F H (Ext.refl fh) (hg F i j)⟩
theorem rD_int0 {S : Sg} {g : Int → Int → D} {gV : Int → Int → V} (hg : ∀ F i j, Dat S F (gV i j) (g i j)) (x y : V) (H : Hp) (Q : VK) (h : rD S (opI (fun _ _ => true) g) x y H Q) : rI0 gV x y H Q := by
  obtain ⟨F, a, b, d, fh, da, db, e, q⟩ := h
  obtain ⟨i, j, rfl, rfl, hc, rfl⟩ := opI_some e
  exact ⟨i, j, datR_int da, datR_int db, q _ F H (Ext.refl fh) (hg F i j)⟩
def subD : D → D → Option D := opI (fun _ _ => true) fun i j => .int (i - j)
def mulI : D → D → Option D := opI (fun i j => decide (i.natAbs < 18446744073709551616) || decide (j.natAbs < 18446744073709551616)) fun i j => .int (i * j)
def divD : D → D → Option D := opI (fun _ j => decide (0 < j) && decide (j.natAbs < 1073741824)) fun i j => .int (i / j)
def modD : D → D → Option D := opI (fun _ j => decide (0 < j)) fun i j => .int (i % j)
def powD : D → D → Option D := opI (fun i j => decide (0 ≤ j) && (decide (j ≤ 1000000) && decide (i.natAbs < 2 ^ 64))) fun i j => .int (i ^ j.toNat)
def addI : D → D → Option D := opI (fun _ _ => true) fun i j => .int (i + j)
def ltD : D → D → Option D := opI (fun _ _ => true) fun i j => .bl (decide (i < j))
def leD : D → D → Option D := opI (fun _ _ => true) fun i j => .bl (decide (i ≤ j))
def gtD : D → D → Option D := opI (fun _ _ => true) fun i j => .bl (decide (j < i))
def geD : D → D → Option D := opI (fun _ _ => true) fun i j => .bl (decide (j ≤ i))
section
variable {X : Cx}
theorem d_sub : OpR X (binaryOp .Sub) (rD (Sx X) subD) := OpR.imp op_sub (rD_int0 fun _ _ _ => .int _)
theorem d_addI : OpR X (binaryOp .Add) (rD (Sx X) addI) := OpR.imp op_add (rD_int0 fun _ _ _ => .int _)
theorem d_mulI : OpR X (binaryOp .Mult) (rD (Sx X) mulI) := OpR.imp op_mul (rD_int (fun i j h => by
  simp only [Bool.or_eq_true, decide_eq_true_eq] at h
  show (-(2 ^ 64) < i ∧ i < 2 ^ 64) ∨ (-(2 ^ 64) < j ∧ j < 2 ^ 64)
  omega) fun _ _ _ => .int _)
theorem d_div : OpR X (binaryOp .FloorDiv) (rD (Sx X) divD) := OpR.imp op_fdiv (rD_int (fun i j h => by
  simp only [Bool.and_eq_true, decide_eq_true_eq] at h
  show 0 < j ∧ j < 1073741824
  omega) fun _ _ _ => .int _)
theorem d_mod : OpR X (binaryOp .Mod) (rD (Sx X) modD) := OpR.imp op_mod (rD_int (fun i j h => of_decide_eq_true h) fun _ _ _ => .int _)
theorem d_pow : OpR X (binaryOp .Pow) (rD (Sx X) powD) := OpR.imp op_pow (rD_int (fun i j h => by
  simp only [Bool.and_eq_true, decide_eq_true_eq] at h
  exact h) fun _ _ _ => .int _)
theorem d_lt : OpR X (compareOp .Lt) (rD (Sx X) ltD) := OpR.imp op_lt (rD_int0 fun _ _ _ => .bl _)
theorem d_le : OpR X (compareOp .LtE) (rD (Sx X) leD) := OpR.imp op_le (rD_int0 fun _ _ _ => .bl _)
theorem d_gt : OpR X (compareOp .Gt) (rD (Sx X) gtD) := OpR.imp op_gt (rD_int0 fun _ _ _ => .bl _)
theorem d_ge : OpR X (compareOp .GtE) (rD (Sx X) geD) := OpR.imp op_ge (rD_int0 fun _ _ _ => .bl _)

/-! ### +, texts, tuples, lists -/
def addS : D → D → Option D
  | .str x, .str y => if x.length + y.length ≤ sizeLine then some (.str (x ++ y)) else none
  | _, _ => none
def addT : D → D → Option D
  | .tup xs, .tup ys => if xs.length + ys.length ≤ sizeLine then some (.tup (xs ++ ys)) else none
  | _, _ => none
def addL : D → D → Option D
  | .lst xs, .lst ys => if xs.length + ys.length ≤ sizeLine then some (.lst (xs ++ ys)) else none
  | _, _ => none
theorem d_addS : OpR X (binaryOp .Add) (rD (Sx X) addS) := OpR.imp op_add_str fun x y H Q ⟨F, a, b, d, fh, da, db, e, q⟩ => by
  unfold addS at e
  split at e
  · rename_i s t
    by_cases hz : s.length + t.length ≤ sizeLine
    · rw [if_pos hz] at e
      cases e
      obtain ⟨rfl, h1⟩ := datR_str da
      obtain ⟨rfl, h2⟩ := datR_str db
      exact ⟨s, t, rfl, rfl, hz, q _ F H (Ext.refl fh) (.str (sOk_cat h1 h2 hz))⟩
    · rw [if_neg hz] at e
      cases e
  · cases e
theorem d_addT : OpR X (binaryOp .Add) (rD (Sx X) addT) := OpR.imp op_catA fun x y H Q ⟨F, a, b, d, fh, da, db, e, q⟩ => by
  unfold addT at e
  split at e
  · rename_i s t
    by_cases hz : s.length + t.length ≤ sizeLine
    · rw [if_pos hz] at e
      cases e
      obtain ⟨p, xs, rfl, h1, h2, h3, h4⟩ := datR_tup fh da
      obtain ⟨p', ys, rfl, k1, k2, k3, k4⟩ := datR_tup fh db
      refine ⟨p, p', xs, ys, rfl, rfl, h1, k1, by rw [h2.length, k2.length]; exact hz, fun hx => ?_, fun hx hy => ?_, fun hx hy r hr => ?_⟩
      · subst hx
        cases h2
        exact q _ F H (Ext.refl fh) (by rw [List.nil_append]; exact k4)
      · subst hy
        cases k2
        exact q _ F H (Ext.refl fh) (by rw [List.append_nil]; exact h4)
      · have x : Ext F H (upd F r (.tup (xs ++ ys))) (upd H r (.tup (xs ++ ys))) := Ext.new fh hr
        exact q _ _ _ x (.tup (SqT.of upd_same) (by rw [List.length_append]; exact hz) ((h2.mono x.ff).append (k2.mono x.ff)))
    · rw [if_neg hz] at e
      cases e
  · cases e
/-- list + list, of any kind -/
theorem op_catL : OpR X (binaryOp .Add) (fun x y H Q => ∃ l b xs zs, x = .ref l ∧ y = .ref b ∧ Rd H l (.lst xs) ∧ Rd H b (.lst zs) ∧ xs.length + zs.length ≤ sizeLine ∧ ∀ p, H p = none → Q (.ref p) (upd H p (.lst (xs ++ zs)))) := by
  intro pins s σ H x y v u Q I rx ry h
  obtain ⟨l, b, xs, zs, rfl, rfl, hH, hB, hz, q⟩ := h
  cases rx
  cases ry
  obtain ⟨z, its, n, r, e⟩ := hH.ok I.hok
  obtain ⟨z2, its2, n2, r2, e2⟩ := hB.ok I.hok
  have ln := r.length
  have ln2 := r2.length
  refine PySem.P.add_list e e2 ?_ (by rw [List.size_toArray, List.size_toArray]; omega)
  have ea : its.toArray ++ its2.toArray = (its ++ its2).toArray := by simp
  rw [ea]
  exact ⟨.ref _, _, I.lnew (t' := s.toks) (r.append r2) (by rw [List.length_append]; omega), rfl, q _ I.fresh⟩
theorem dN_addL : OpR X (binaryOp .Add) (rDN (Sx X) addL) := OpR.imp op_catL fun x y H Q ⟨F, a, b, d, fh, da, db, e, q⟩ => by
  unfold addL at e
  split at e
  · rename_i s t
    by_cases hz : s.length + t.length ≤ sizeLine
    · rw [if_pos hz] at e
      cases e
      obtain ⟨p, xs, rfl, h1, h2, h3⟩ := datR_lst fh da
      obtain ⟨p', ys, rfl, k1, k2, k3⟩ := datR_lst fh db
      refine ⟨p, p', xs, ys, rfl, rfl, h1, k1, by rw [h2.length, k2.length]; exact hz, fun r hr => ?_⟩
      exact q r _ hr (same_new hr) ⟨xs ++ ys, upd_same, h2.append k2, by rw [List.length_append]; exact hz⟩
    · rw [if_neg hz] at e
      cases e
  · cases e
/-! ### items -/
def ixD : D → D → Option D
  | .lst ds, .int i => atI ds i
  | .tup ds, .int i => atI ds i
  | .scr ns, .int i => (atI ns i).map D.int
  | .str x, .int i => (atI x.cps.toList i).map fun c => .str ⟨#[c]⟩
  | _, _ => none
theorem atI_dats {S : Sg} {F : Hp} {xs : List V} {ds : List D} {i : Int} {d : D} (h : Dats S F xs ds) (e : atI ds i = some d) : ∃ v, atI xs i = some v ∧ Dat S F v d := by
  unfold atI at e ⊢
  rw [h.length]
  cases z : ixN ds.length i with
  | none => rw [z] at e; cases e
  | some j =>
    rw [z] at e
    exact h.get e
theorem atI_map {α β : Type} (f : α → β) (xs : List α) (i : Int) : atI (xs.map f) i = (atI xs i).map f := by
  unfold atI
  rw [List.length_map]
  cases ixN xs.length i with
  | none => rfl
  | some j => exact List.getElem?_map
theorem d_ix : IxR X (rD (Sx X) ixD) := IxR.imp (ix_seq (X := X)) fun x y H Q ⟨F, a, b, d, fh, da, db, e, q⟩ => by
  cases b with
  | int i =>
    have ey := datR_int db
    subst ey
    cases a with
    | lst ds =>
      obtain ⟨p, xs, rfl, h1, h2, h3⟩ := datR_lst fh da
      obtain ⟨v, hv, dv⟩ := atI_dats h2 e
      exact .inl ⟨p, xs, i, v, rfl, rfl, .inl h1, hv, q v F H (Ext.refl fh) dv⟩
    | scr ns =>
      obtain ⟨p, rfl, h1, h2⟩ := datR_scr fh da
      have e' : (atI ns i).map D.int = some d := e
      obtain ⟨n, hn, rfl⟩ := Option.map_eq_some_iff.mp e'
      exact .inl ⟨p, _, i, .int n, rfl, rfl, h1, by rw [atI_map, hn]; rfl, q _ F H (Ext.refl fh) (.int n)⟩
    | tup ds =>
      obtain ⟨p, xs, rfl, h1, h2, h3, _⟩ := datR_tup fh da
      obtain ⟨v, hv, dv⟩ := atI_dats h2 e
      exact .inr (.inl ⟨p, xs, i, v, rfl, rfl, h1, hv, q v F H (Ext.refl fh) dv⟩)
    | str z =>
      obtain ⟨rfl, hz⟩ := datR_str da
      have e' : (atI z.cps.toList i).map (fun c => D.str ⟨#[c]⟩) = some d := e
      obtain ⟨c, hc, rfl⟩ := Option.map_eq_some_iff.mp e'
      refine .inr (.inr ⟨z, i, c, rfl, rfl, hz.1, hc, q _ F H (Ext.refl fh) (.str (sOk_sign hz ?_))⟩)
      unfold atI at hc
      cases w : ixN z.cps.toList.length i with
      | none => rw [w] at hc; cases hc
      | some j =>
        rw [w] at hc
        exact List.mem_of_getElem? hc
    | _ => cases e
  | _ => cases a <;> cases e

/-! ### len, int, tuple, list -/
def lenD : List D → Option D
  | [.lst ds] => some (.int ds.length)
  | [.tup ds] => some (.int ds.length)
  | [.scr ds] => some (.int ds.length)
  | [.str x] => some (.int x.length)
  | _ => none
theorem paired1 {S : Sg} {F H : Hp} {xs : List V} {d : D} (h : Paired (fun v a => DatR S F H v a) xs [d]) : ∃ v, xs = [v] ∧ DatR S F H v d := by
  cases h with
  | cons h t =>
    cases t
    exact ⟨_, rfl, h⟩
theorem paired2 {S : Sg} {F H : Hp} {xs : List V} {d e : D} (h : Paired (fun v a => DatR S F H v a) xs [d, e]) : ∃ v w, xs = [v, w] ∧ DatR S F H v d ∧ DatR S F H w e := by
  cases h with
  | cons h t =>
    obtain ⟨w, rfl, hw⟩ := paired1 t
    exact ⟨_, _, rfl, h, hw⟩
theorem d_len : CallR X (.builtin "len") (rDs (Sx X) lenD) := CallR.imp call_len fun xs H Q ⟨F, ds, d, fh, da, e, q⟩ => by
  match ds, da, e with
  | [.lst zs], da, e =>
    cases e
    obtain ⟨v, rfl, h⟩ := paired1 da
    obtain ⟨p, ys, rfl, h1, h2, h3⟩ := datR_lst fh h
    exact ⟨_, _, rfl, .inl ⟨ys, .inl h1, rfl⟩, by rw [h2.length]; exact q _ F H (Ext.refl fh) (.int _)⟩
  | [.scr zs], da, e =>
    cases e
    obtain ⟨v, rfl, h⟩ := paired1 da
    obtain ⟨p, rfl, h1, h2⟩ := datR_scr fh h
    exact ⟨_, _, rfl, .inl ⟨_, h1, rfl⟩, by rw [List.length_map]; exact q _ F H (Ext.refl fh) (.int _)⟩
  | [.tup zs], da, e =>
    cases e
    obtain ⟨v, rfl, h⟩ := paired1 da
    obtain ⟨p, ys, rfl, h1, h2, h3, _⟩ := datR_tup fh h
    exact ⟨_, _, rfl, .inr ⟨ys, h1, rfl⟩, by rw [h2.length]; exact q _ F H (Ext.refl fh) (.int _)⟩
  | [.str z], da, e =>
    cases e
    obtain ⟨v, rfl, h⟩ := paired1 da
    obtain ⟨rfl, hz⟩ := datR_str h
    exact ⟨_, z.length, rfl, ⟨hz.1, rfl⟩, q _ F H (Ext.refl fh) (.int _)⟩
def intD : List D → Option D
  | [.int i] => some (.int i)
  | [.bl b] => some (.int (if b then 1 else 0))
  | _ => none
theorem d_int : CallR X (.type "int") (rDs (Sx X) intD) := CallR.imp call_int1 fun xs H Q ⟨F, ds, d, fh, da, e, q⟩ => by
  match ds, da, e with
  | [.int i], da, e =>
    cases e
    obtain ⟨v, rfl, h⟩ := paired1 da
    cases datR_int h
    exact .inl ⟨i, rfl, q _ F H (Ext.refl fh) (.int _)⟩
  | [.bl b], da, e =>
    cases e
    obtain ⟨v, rfl, h⟩ := paired1 da
    cases datR_bl h
    exact .inr ⟨b, rfl, q _ F H (Ext.refl fh) (.int _)⟩
def tupD : List D → Option D
  | [.lst ds] => some (.tup ds)
  | [.tup ds] => some (.tup ds)
  | _ => none
theorem d_tup : CallR X (.type "tuple") (rDs (Sx X) tupD) := CallR.imp call_tuple_of fun xs H Q ⟨F, ds, d, fh, da, e, q⟩ => by
  match ds, da, e with
  | [.lst zs], da, e =>
    cases e
    obtain ⟨v, rfl, h⟩ := paired1 da
    obtain ⟨p, ys, rfl, h1, h2, h3⟩ := datR_lst fh h
    refine ⟨p, ys, rfl, .inl ⟨.inl h1, fun l hl => ?_⟩⟩
    have x : Ext F H (upd F l (.tup ys)) (upd H l (.tup ys)) := Ext.new fh hl
    exact q _ _ _ x (.tup (SqT.of upd_same) h3 (h2.mono x.ff))
  | [.tup zs], da, e =>
    cases e
    obtain ⟨v, rfl, h⟩ := paired1 da
    obtain ⟨p, ys, rfl, h1, h2, h3, h4⟩ := datR_tup fh h
    exact ⟨p, ys, rfl, .inr ⟨h1, q _ F H (Ext.refl fh) h4⟩⟩
def listD : List D → Option D
  | [.lst ds] => some (.lst ds)
  | [.tup ds] => some (.lst ds)
  | _ => none
theorem dN_list : CallR X (.type "list") (rDsN (Sx X) listD) := CallR.imp call_list_of fun xs H Q ⟨F, ds, d, fh, da, e, q⟩ => by
  match ds, da, e with
  | [.lst zs], da, e =>
    cases e
    obtain ⟨v, rfl, h⟩ := paired1 da
    obtain ⟨p, ys, rfl, h1, h2, h3⟩ := datR_lst fh h
    exact ⟨p, ys, rfl, .inl (.inl h1), fun l hl => q l _ hl (same_new hl) ⟨ys, upd_same, h2, h3⟩⟩
  | [.tup zs], da, e =>
    cases e
    obtain ⟨v, rfl, h⟩ := paired1 da
    obtain ⟨p, ys, rfl, h1, h2, h3, _⟩ := datR_tup fh h
    exact ⟨p, ys, rfl, .inr h1, fun l hl => q l _ hl (same_new hl) ⟨ys, upd_same, h2, h3⟩⟩
end
end DP
set_option Elab.async false
set_option linter.all false
set_option maxRecDepth 100000
set_option maxHeartbeats 2000000
/-! DP10: equality, membership, the whole +, texts joined, slices, isinstance of plain data. -/
namespace DP
open PySem PySem.Spec L2
open PyProof.Rows hiding St

mutual
def toP : D → PyData
  | .non => .none
  | .bl b => .bool b
  | .int i => .int i
  | .str x => .str x
  | .tup xs => .tuple (toPs xs)
  | .lst xs => .list (toPs xs)
  | _ => .none
def toPs : List D → List PyData
  | [] => []
  | d :: ds => toP d :: toPs ds
end
mutual
/-- none, bools, ints, texts, lists and tuples of them, nested at most n deep -/
def pl : D → Nat → Bool
  | .non, _ => true
  | .bl _, _ => true
  | .int _, _ => true
  | .str _, _ => true
  | .tup xs, n + 1 => pls xs n
  | .lst xs, n + 1 => pls xs n
  | _, _ => false
def pls : List D → Nat → Bool
  | [], _ => true
  | d :: ds, n => pl d n && pls ds n
end
mutual
theorem dp_of {S : Sg} {F H : Hp} (fh : Same F H) : ∀ {v : V} {d : D} {n : Nat}, Dat S F v d → pl d n = true → Dp S.K H v (toP d) ∧ (toP d).canLay0 = true ∧ (toP d).depth ≤ n
  | _, _, _, .non, _ => ⟨.non, rfl, Nat.zero_le _⟩
  | _, _, _, .bl b, _ => ⟨.bl b, rfl, Nat.zero_le _⟩
  | _, _, _, .int i, _ => ⟨.int i, rfl, Nat.zero_le _⟩
  | _, .str x, _, .str h, _ => ⟨.str _, h.2, Nat.zero_le _⟩
  | _, .tup ds, 0, .tup h l dd, p => by cases p
  | _, .tup ds, n + 1, .tup h l dd, p => by
    obtain ⟨h1, h2, h3⟩ := dps_of fh (n := n) dd p
    exact ⟨.tup (Same.seqT fh h) h1, h2, Nat.succ_le_succ h3⟩
  | _, .lst ds, 0, .lst h l dd, p => by cases p
  | _, .lst ds, n + 1, .lst h l dd, p => by
    obtain ⟨h1, h2, h3⟩ := dps_of fh (n := n) dd p
    exact ⟨.lst (.inl (Same.rd fh h)) h1, h2, Nat.succ_le_succ h3⟩
  | _, .scr _, n, .scr h l, p => by cases n <;> cases p
  | _, .dic _, n, .dic _ _ _ _, p => by cases n <;> cases p
  | _, .dit _, n, .dit _ _ _ _, p => by cases n <;> cases p
  | _, .obj _ _, n, .obj _ _ _ _, p => by cases n <;> cases p
  | _, .exn _ _, n, .exn0 _ _, p => by cases n <;> cases p
  | _, .exn _ _, n, .exn1 _ _ _ _, p => by cases n <;> cases p
theorem dps_of {S : Sg} {F H : Hp} (fh : Same F H) : ∀ {vs : List V} {ds : List D} {n : Nat}, Dats S F vs ds → pls ds n = true → DpAll S.K H vs (toPs ds) ∧ PyData.canLayAll0 (toPs ds) = true ∧ PyData.depthAll (toPs ds) ≤ n
  | _, _, _, .nil, _ => ⟨.nil, rfl, Nat.zero_le _⟩
  | _, d :: ds, n, .cons h t, p => by
    have p' : (pl d n && pls ds n) = true := p
    obtain ⟨p1, p2⟩ := Bool.and_eq_true_iff.mp p'
    obtain ⟨h1, h2, h3⟩ := dp_of fh h p1
    obtain ⟨k1, k2, k3⟩ := dps_of fh t p2
    exact ⟨.cons h1 k1, Bool.and_eq_true_iff.mpr ⟨h2, k2⟩, Nat.max_le.mpr ⟨h3, k3⟩⟩
end
theorem dpR_of {S : Sg} {F H : Hp} (fh : Same F H) {v : V} {d : D} {n : Nat} (h : DatR S F H v d) (p : pl d n = true) : Dp S.K H v (toP d) ∧ (toP d).canLay0 = true ∧ (toP d).depth ≤ n := by
  rcases h with h | ⟨a, rfl, h⟩
  · exact dp_of fh h p
  · cases d with
    | lst ds =>
      obtain ⟨xs, h1, h2, h3⟩ := h
      cases n with
      | zero => cases p
      | succ n =>
        obtain ⟨k1, k2, k3⟩ := dps_of fh (n := n) h2 p
        exact ⟨.lst (SqL.of h1) k1, k2, Nat.succ_le_succ k3⟩
    | _ => first | exact h.elim | (cases n <;> cases p)
theorem shaped_of {d : PyData} {n : Nat} (h : d.canLay0 = true) (h2 : d.depth ≤ n) (hn : n ≤ 64) : SeqAt.shaped d = true := Bool.and_eq_true_iff.mpr ⟨h, decide_eq_true (Nat.le_trans h2 hn)⟩
def eqB (a b : D) : Bool := PyData.eqv (toP a) (toP b)
def eqD : D → D → Option D := fun a b => if pl a 64 = true ∧ pl b 64 = true then some (.bl (eqB a b)) else none
def neD : D → D → Option D := fun a b => if pl a 64 = true ∧ pl b 64 = true then some (.bl (!eqB a b)) else none
section
variable {X : Cx}
theorem d_eq (hu : X.A.units + 64 < cLine) : OpR X (compareOp .Eq) (rD (Sx X) eqD) := OpR.imp (op_eqD hu) fun x y H Q ⟨F, a, b, d, fh, da, db, e, q⟩ => by
  unfold eqD at e
  by_cases hp : pl a 64 = true ∧ pl b 64 = true
  · rw [if_pos hp] at e
    cases e
    obtain ⟨h1, h2, h3⟩ := dpR_of fh da hp.1
    obtain ⟨k1, k2, k3⟩ := dpR_of fh db hp.2
    exact ⟨_, _, h1, k1, shaped_of h2 h3 (Nat.le_refl _), shaped_of k2 k3 (Nat.le_refl _), q _ F H (Ext.refl fh) (.bl _)⟩
  · rw [if_neg hp] at e
    cases e
theorem d_ne (hu : X.A.units + 64 < cLine) : OpR X (compareOp .NotEq) (rD (Sx X) neD) := OpR.imp (op_neD hu) fun x y H Q ⟨F, a, b, d, fh, da, db, e, q⟩ => by
  unfold neD at e
  by_cases hp : pl a 64 = true ∧ pl b 64 = true
  · rw [if_pos hp] at e
    cases e
    obtain ⟨h1, h2, h3⟩ := dpR_of fh da hp.1
    obtain ⟨k1, k2, k3⟩ := dpR_of fh db hp.2
    exact ⟨_, _, h1, k1, shaped_of h2 h3 (Nat.le_refl _), shaped_of k2 k3 (Nat.le_refl _), q _ F H (Ext.refl fh) (.bl _)⟩
  · rw [if_neg hp] at e
    cases e
/-! ### is None -/
def isND : D → D → Option D := fun a b => match b with
  | .non => (match a with
    | .non => some (.bl true)
    | .scr _ => none
    | _ => some (.bl false))
  | _ => none
def notND : D → D → Option D := fun a b => match b with
  | .non => (match a with
    | .non => some (.bl false)
    | .scr _ => none
    | _ => some (.bl true))
  | _ => none
theorem datR_ref {S : Sg} {F H : Hp} {v : V} {d : D} (h : DatR S F H v d) (hd : v = .non) : d = .non := by
  subst hd
  rcases h with h | ⟨a, e, _⟩
  · cases h; rfl
  · cases e
theorem d_isN : OpR X (compareOp .Is) (rD (Sx X) isND) := OpR.imp op_isN fun x y H Q ⟨F, a, b, d, fh, da, db, e, q⟩ => by
  cases b with
  | non =>
    refine ⟨datR_non db, ?_⟩
    by_cases hx : x = .non
    · have ha := datR_ref da hx
      subst ha
      cases e
      rw [decide_eq_true hx]
      exact q _ F H (Ext.refl fh) (.bl _)
    · have hn : a ≠ .non := fun z => hx (by subst z; exact datR_non da)
      have ed : d = .bl false := by
        cases a <;> first | exact absurd rfl hn | (cases e; rfl) | cases e
      subst ed
      rw [decide_eq_false hx]
      exact q _ F H (Ext.refl fh) (.bl _)
  | _ => cases e
theorem d_notN : OpR X (compareOp .IsNot) (rD (Sx X) notND) := OpR.imp op_notN fun x y H Q ⟨F, a, b, d, fh, da, db, e, q⟩ => by
  cases b with
  | non =>
    refine ⟨datR_non db, ?_⟩
    by_cases hx : x = .non
    · have ha := datR_ref da hx
      subst ha
      cases e
      rw [decide_eq_true hx]
      exact q _ F H (Ext.refl fh) (.bl _)
    · have hn : a ≠ .non := fun z => hx (by subst z; exact datR_non da)
      have ed : d = .bl true := by
        cases a <;> first | exact absurd rfl hn | (cases e; rfl) | cases e
      subst ed
      rw [decide_eq_false hx]
      exact q _ F H (Ext.refl fh) (.bl _)
  | _ => cases e
/-! ### in -/
def inL (neg : Bool) : D → D → Option D := fun a b => match b with
  | .lst ds => if pl a 64 = true ∧ pls ds 63 = true then some (.bl (let r := ds.any fun z => eqB z a; if neg then !r else r)) else none
  | _ => none
theorem toPs_any (a : D) : ∀ ds : List D, (toPs ds).any (fun z => PyData.eqv z (toP a)) = ds.any fun z => eqB z a
  | [] => rfl
  | d :: ds => by
    show (PyData.eqv (toP d) (toP a) || (toPs ds).any _) = (eqB d a || ds.any _)
    rw [toPs_any a ds]
    rfl
theorem dp_list {S : Sg} {F H : Hp} (fh : Same F H) {v : V} {ds : List D} (h : DatR S F H v (.lst ds)) (p : pls ds 63 = true) : Dp S.K H v (.list (toPs ds)) ∧ SeqAt.shaped (.list (toPs ds)) = true := by
  obtain ⟨h1, h2, h3⟩ := dpR_of (n := 64) fh h p
  exact ⟨h1, shaped_of h2 h3 (Nat.le_refl _)⟩
theorem d_inL (hu : X.A.units + 65 < cLine) : OpR X (compareOp .In) (rD (Sx X) (inL false)) := OpR.imp (op_inD hu) fun x y H Q ⟨F, a, b, d, fh, da, db, e, q⟩ => by
  cases b with
  | lst ds =>
    have e' : (if pl a 64 = true ∧ pls ds 63 = true then some (D.bl (ds.any fun z => eqB z a)) else none) = some d := e
    by_cases hp : pl a 64 = true ∧ pls ds 63 = true
    · rw [if_pos hp] at e'
      cases e'
      obtain ⟨h1, h2, h3⟩ := dpR_of fh da hp.1
      obtain ⟨k1, k2⟩ := dp_list fh db hp.2
      refine ⟨_, _, h1, k1, shaped_of h2 h3 (Nat.le_refl _), k2, ?_⟩
      rw [toPs_any]
      exact q _ F H (Ext.refl fh) (.bl _)
    · rw [if_neg hp] at e'
      cases e'
  | _ => cases e
theorem d_notInL (hu : X.A.units + 65 < cLine) : OpR X (compareOp .NotIn) (rD (Sx X) (inL true)) := OpR.imp (op_notInD hu) fun x y H Q ⟨F, a, b, d, fh, da, db, e, q⟩ => by
  cases b with
  | lst ds =>
    have e' : (if pl a 64 = true ∧ pls ds 63 = true then some (D.bl (!ds.any fun z => eqB z a)) else none) = some d := e
    by_cases hp : pl a 64 = true ∧ pls ds 63 = true
    · rw [if_pos hp] at e'
      cases e'
      obtain ⟨h1, h2, h3⟩ := dpR_of fh da hp.1
      obtain ⟨k1, k2⟩ := dp_list fh db hp.2
      refine ⟨_, _, h1, k1, shaped_of h2 h3 (Nat.le_refl _), k2, ?_⟩
      rw [toPs_any]
      exact q _ F H (Ext.refl fh) (.bl _)
    · rw [if_neg hp] at e'
      cases e'
  | _ => cases e
/-! a tuple of flat members -/
def flat : D → Bool
  | .non => true
  | .bl _ => true
  | .int _ => true
  | .str _ => true
  | _ => false
def inT (neg : Bool) : D → D → Option D := fun a b => match b with
  | .tup ds => if flat a = true ∧ ds.all flat = true then some (.bl (let r := ds.any fun z => eqB z a; if neg then !r else r)) else none
  | _ => none
theorem flat_V {S : Sg} {F H : Hp} {v : V} {d : D} (h : DatR S F H v d) (f : flat d = true) : flatV v = true := by
  rcases h with h | ⟨a, rfl, h⟩
  · cases h <;> first | exact Bool.noConfusion (show false = true from f) | rfl
  · cases d <;> first | exact Bool.noConfusion (show false = true from f) | exact h.elim
theorem flat_eq {S : Sg} {F F' H H' : Hp} {v w : V} {d e : D} (h : DatR S F H v d) (f : flat d = true) (h' : DatR S F' H' w e) (f' : flat e = true) : eqV v w = eqB d e := by
  rcases h with h | ⟨a, rfl, h⟩
  · rcases h' with h' | ⟨a, rfl, h'⟩
    · cases h <;> first | exact Bool.noConfusion (show false = true from f) | (cases h' <;> first | exact Bool.noConfusion (show false = true from f') | rfl)
    · cases e <;> first | exact Bool.noConfusion (show false = true from f') | exact h'.elim
  · cases d <;> first | exact Bool.noConfusion (show false = true from f) | exact h.elim
theorem flats {S : Sg} {F : Hp} {x : V} {a : D} {H : Hp} (hx : DatR S F H x a) (fx : flat a = true) : ∀ {xs : List V} {ds : List D}, Dats S F xs ds → ds.all flat = true → xs.all flatV = true ∧ inV x xs = ds.any fun z => eqB z a
  | _, _, .nil, _ => ⟨rfl, rfl⟩
  | v :: vs, d :: ds, .cons h t, f => by
    rw [List.all_cons, Bool.and_eq_true] at f
    obtain ⟨k1, k2⟩ := flats hx fx t f.2
    refine ⟨by rw [List.all_cons, Bool.and_eq_true]; exact ⟨flat_V (H := H) (.inl h) f.1, k1⟩, ?_⟩
    show (eqV v x || inV x vs) = (eqB d a || ds.any _)
    rw [k2, flat_eq (H := H) (.inl h) f.1 hx fx]
theorem d_inT : OpR X (compareOp .In) (rD (Sx X) (inT false)) := OpR.imp op_in_seq fun x y H Q ⟨F, a, b, d, fh, da, db, e, q⟩ => by
  cases b with
  | tup ds =>
    have e' : (if flat a = true ∧ ds.all flat = true then some (D.bl (ds.any fun z => eqB z a)) else none) = some d := e
    by_cases hp : flat a = true ∧ ds.all flat = true
    · rw [if_pos hp] at e'
      cases e'
      obtain ⟨p, xs, rfl, h1, h2, h3, _⟩ := datR_tup fh db
      obtain ⟨k1, k2⟩ := flats da hp.1 h2 hp.2
      exact ⟨p, xs, rfl, .inr h1, flat_V da hp.1, k1, by rw [k2]; exact q _ F H (Ext.refl fh) (.bl _)⟩
    · rw [if_neg hp] at e'
      cases e'
  | _ => cases e
theorem d_notInT : OpR X (compareOp .NotIn) (rD (Sx X) (inT true)) := OpR.imp op_notIn_seq fun x y H Q ⟨F, a, b, d, fh, da, db, e, q⟩ => by
  cases b with
  | tup ds =>
    have e' : (if flat a = true ∧ ds.all flat = true then some (D.bl (!ds.any fun z => eqB z a)) else none) = some d := e
    by_cases hp : flat a = true ∧ ds.all flat = true
    · rw [if_pos hp] at e'
      cases e'
      obtain ⟨p, xs, rfl, h1, h2, h3, _⟩ := datR_tup fh db
      obtain ⟨k1, k2⟩ := flats da hp.1 h2 hp.2
      exact ⟨p, xs, rfl, .inr h1, flat_V da hp.1, k1, by rw [k2]; exact q _ F H (Ext.refl fh) (.bl _)⟩
    · rw [if_neg hp] at e'
      cases e'
  | _ => cases e
/-! one sign in a text -/
def inS (neg : Bool) : D → D → Option D := fun a b => match a, b with
  | .str x, .str z => (match x.cps.toList with
    | [c] => some (.bl (let r := decide (c ∈ z.cps.toList); if neg then !r else r))
    | _ => none)
  | _, _ => none
theorem one_sign {x : Str} {c : Nat} (h : x.cps.toList = [c]) : x = ⟨#[c]⟩ := by
  obtain ⟨a⟩ := x
  have : a = #[c] := by
    apply Array.ext'
    exact h
  rw [this]
theorem d_inS : OpR X (compareOp .In) (rD (Sx X) (inS false)) := OpR.imp op_in_sign fun x y H Q ⟨F, a, b, d, fh, da, db, e, q⟩ => by
  unfold inS at e
  split at e
  · rename_i s z
    split at e
    · rename_i c hc
      cases e
      obtain ⟨rfl, _⟩ := datR_str da
      obtain ⟨rfl, _⟩ := datR_str db
      exact ⟨c, z, by rw [one_sign hc], rfl, q _ F H (Ext.refl fh) (.bl _)⟩
    · cases e
  · cases e
theorem d_notInS : OpR X (compareOp .NotIn) (rD (Sx X) (inS true)) := OpR.imp op_notIn_sign fun x y H Q ⟨F, a, b, d, fh, da, db, e, q⟩ => by
  unfold inS at e
  split at e
  · rename_i s z
    split at e
    · rename_i c hc
      cases e
      obtain ⟨rfl, _⟩ := datR_str da
      obtain ⟨rfl, _⟩ := datR_str db
      exact ⟨c, z, by rw [one_sign hc], rfl, q _ F H (Ext.refl fh) (.bl _)⟩
    · cases e
  · cases e
def inD (neg : Bool) : D → D → Option D := orD (inT neg) (orD (inL neg) (inS neg))
theorem d_in (hu : X.A.units + 65 < cLine) : OpR X (compareOp .In) (rD (Sx X) (inD false)) := OpR.orD d_inT (OpR.orD (d_inL hu) d_inS)
theorem d_notIn (hu : X.A.units + 65 < cLine) : OpR X (compareOp .NotIn) (rD (Sx X) (inD true)) := OpR.orD d_notInT (OpR.orD (d_notInL hu) d_notInS)
/-! ### the whole + -/
theorem OpR.share {op : Value → Value → Sem Value} {f : D → D → Option D} (h : OpR X op (rDN (Sx X) f)) : OpR X op (rD (Sx X) f) := OpR.imp h fun x y H Q ⟨F, a, b, d, fh, da, db, e, q⟩ => by
  refine ⟨F, a, b, d, fh, da, db, e, fun p H' hp hh ow => ?_⟩
  have hF : F p = none := Same.free fh hp
  obtain ⟨o, ho, dd⟩ := ow.dat hF
  exact q _ _ _ ⟨same_new hF, hh, fun b u q => by
    by_cases hb : b = p
    · subst hb; rw [upd_same] at q; cases q; exact ho
    · rw [upd_ne hb] at q; exact hh _ _ (fh _ _ q), fun b h1 h2 => by
    by_cases hb : b = p
    · rw [hb]; exact hp
    · rw [upd_ne hb] at h2; exact absurd h1 h2⟩ dd
def addD : D → D → Option D := orD addI (orD addS (orD addT addL))
theorem d_add : OpR X (binaryOp .Add) (rD (Sx X) addD) := OpR.orD d_addI (OpR.orD d_addS (OpR.orD d_addT (OpR.share dN_addL)))
end
end DP
set_option Elab.async false
set_option linter.all false
set_option maxRecDepth 100000
set_option maxHeartbeats 2000000
/-! DP11: errors as data: made, raised, their fields; isinstance. -/
namespace DP
open PySem PySem.Spec L2
open PyProof.Rows hiding St

/-- what a class of errors must say -/
structure XcC (K : PySem.W.Frag) (C : Addr) : Prop where
  cl : (PySem.W.clsIn K C).isSome = true
  ga : PySem.W.findIn K (.ref C) "__getattribute__" = some (some (.builtin "BaseException.__getattribute__"))
  gg : PySem.W.findIn K (.ref C) "__getattr__" = some none
  sb : PySem.W.subIn K (.ref C) (.type "BaseException") = some true
  ty : PySem.W.typeIn K (.ref C) = some (.type "type")
  hd : PySem.W.hasDictIn K C = true
  ha : PySem.W.findIn K (.ref C) "__class__" = some (some (.builtin "object.__class__"))
  hm : PySem.W.mroIn K C (.type "object") = some true
  kC : PySem.W.keepIn K (.ref C) = true
/-- what object.__class__ must say -/
structure XgC (K : PySem.W.Frag) : Prop where
  hn : PySem.W.specialIn K (.builtin "object.__class__") "__get__" = some (some (.builtin "getset_descriptor.__get__"))
  ht : PySem.W.takesIn K (.builtin "object.__class__") = some true

/-! ### the type of data -/
def tyN : D → Option String
  | .non => some "NoneType"
  | .bl _ => some "bool"
  | .int _ => some "int"
  | .str _ => some "str"
  | .tup _ => some "tuple"
  | .lst _ => some "list"
  | .dic _ => some "dict"
  | _ => none
theorem tyx_of {S : Sg} {F H : Hp} (fh : Same F H) {v : V} {d : D} {n : String} (h : DatR S F H v d) (e : tyN d = some n) : TyX S.K H v (.type n) := by
  rcases h with h | ⟨a, rfl, h⟩
  · cases h with
    | non => cases e; exact .base .non
    | bl b => cases e; exact .base (.bl b)
    | int i => cases e; exact .base (.int i)
    | str q => cases e; exact .base (.str _)
    | tup q _ _ =>
      cases e
      rcases Same.seqT fh q with (q | ⟨o, q⟩) | ⟨o, its, n, q, c, _⟩
      · exact .base (.tup q)
      · exact .fTuple q
      · exact .kTuple q c
    | lst q _ _ =>
      cases e
      rcases Same.rd fh q with q | ⟨o, q⟩
      · exact .base (.lst q)
      · exact .base (.frz q)
    | dic q _ _ _ =>
      cases e
      rcases Same.rd fh q with q | ⟨o, q⟩
      · exact .base (.dK q)
      · exact .fDict q
    | _ => cases e
  · cases d with
    | lst ds => cases e; obtain ⟨xs, h1, _⟩ := h; exact .base (.lst h1)
    | dic ds => cases e; obtain ⟨xs, h1, _⟩ := h; exact .base (.dK h1)
    | _ => first | exact h.elim | cases e

/-- the answers of isinstance for one class: by the value's built-in type, by its own class -/
structure Cls1 where
  bt : String → Option Bool
  ow : Str → Option Bool
def isD (c : Cls1) : D → Option Bool
  | .exn n _ => c.ow n
  | d => (tyN d).bind c.bt
theorem isD_some {c : Cls1} {d : D} {b : Bool} (h : isD c d = some b) : (∃ n fs, d = .exn n fs ∧ c.ow n = some b) ∨ ∃ n, tyN d = some n ∧ c.bt n = some b := by
  cases d with
  | exn n fs => exact .inl ⟨n, fs, rfl, h⟩
  | _ => exact .inr (Option.bind_eq_some_iff.mp h)
def Cls1Ok (S : Sg) (u : Value) (c : Cls1) : Prop := (∀ n b, c.bt n = some b → PySem.W.kitOne S.K (.type n) u = some b) ∧ ∀ n b C, c.ow n = some b → S.T n = some C → XcC S.K C ∧ XgC S.K ∧ PySem.W.kitOne S.K (.ref C) u = some b
def eIs (c : Cls1) (m : M Op) : M D := fun e => (m e).bind fun o e => match look e o with
  | some d => (match isD c d with
    | some b => .ok (.bl b) e
    | none => .bad)
  | none => .bad
section
variable {X : Cx}
def rIsX (S : Sg) (u : Value) (c : Cls1) : List V → Hp → VK → Prop := fun xs H Q => ∃ F x y d b, Same F H ∧ xs = [x, y] ∧ ClsV y u ∧ DatR S F H x d ∧ isD c d = some b ∧ Q (.bl b) H
/-- the object of an error, whether made or caught -/
theorem exO_at {P : Program} {w : World} {H : Hp} {h : Heap} {a C : Addr} {d : Option Addr} (hok : HOk P w H h) (e : ExO H a C d) : ∃ (o : Obj) (vs : Array Value), h.get? a = some o ∧ o.cls = .ref C ∧ o.dict = d ∧ o.data = .fields vs := by
  rcases e with e | e
  · obtain ⟨t1, ho⟩ := exo_at hok e
    exact ⟨_, _, ho, rfl, rfl, rfl⟩
  · obtain ⟨p, _, _⟩ := (show ObjOk P w H h a (exf a C d) from hok a _ e)
    exact p
theorem exF_at {P : Program} {w : World} {H : Hp} {h : Heap} {dx : Addr} {fs : List (Str × V)} (hok : HOk P w H h) (e : ExF H dx fs) : ∃ mA, h.Ns1 dx mA ∧ ∀ f, RelO (fs.lookup f) (mA f) := by
  rcases e with e | e
  · exact exd_at hok e
  · exact (show ObjOk P w H h dx (.xd fs) from hok dx _ e)
theorem inst_of {h : Heap} {a C : Addr} {o : Obj} {vs : Array Value} {d : Option Addr} {od : Option Obj} (ho : h.get? a = some o) (hc : o.cls = .ref C) (hdi : o.dict = d) (hda : o.data = .fields vs) (hd : match d with
    | some x => h.get? x = od
    | none => od = none) (hs : ∀ x, d = some x → od.isSome = true) : PySem.W.InstAt h a o C od := by
  refine ⟨ho, hc, by unfold PySem.W.notCls; rw [hda] <;> rfl, ?_⟩
  rw [hdi]
  cases d with
  | none =>
    subst hd
    trivial
  | some x =>
    cases od with
    | none => cases hs x rfl
    | some o => exact hd
theorem exo_inst {P : Program} {w : World} {H : Hp} {h : Heap} {a C : Addr} {d : Option Addr} (hok : HOk P w H h) (e : ExO H a C d) (hd : ∀ dx, d = some dx → ∃ o, h.get? dx = some o) : ∃ ox od, PySem.W.InstAt h a ox C od := by
  obtain ⟨o, vs, h1, h2, h3, h4⟩ := exO_at hok e
  cases d with
  | none => exact ⟨o, none, inst_of h1 h2 h3 h4 rfl fun _ z => nomatch z⟩
  | some dx =>
    obtain ⟨od, hdx⟩ := hd dx rfl
    exact ⟨o, some od, inst_of h1 h2 h3 h4 hdx fun _ _ => rfl⟩
theorem call_isX {u : Value} {c : Cls1} (hc : Cls1Ok (Sx X) u c) : CallR X (.builtin "isinstance") (rIsX (Sx X) u c) := by
  intro pins s σ H xs us Q I r h
  obtain ⟨F, x, y, d, b, fh, rfl, k, da, hb, q⟩ := h
  rcases isD_some hb with ⟨n, fs, rfl, hb⟩ | ⟨n, hn, hbt⟩
  · rcases da with da | ⟨a, _, da⟩
    · obtain ⟨u1, u2, rfl, r1, r2⟩ := vals2 r
      have e2 := k.eq r2
      subst e2
      have key : ∀ {a C : Addr} {dx : Option Addr}, x = .ref a → (Sx X).T n = some C → ExO F a C dx → (∀ z, dx = some z → ∃ fs, ExF F z fs) → wpAny (model X.prog X.w) X.A (call (.builtin "isinstance") [u1, u2]) (EP X pins σ Q) X.xe s := fun {a C dx} ex hT hF hdx => by
        obtain ⟨h1, h2, h3⟩ := hc.2 n b C hb hT
        obtain ⟨ox, od, J⟩ := exo_inst I.hok (hF.mono fh) (fun z hz => by
          obtain ⟨fs, hz2⟩ := hdx z hz
          obtain ⟨mA, ⟨o, _, _, e, _⟩, _⟩ := exF_at I.hok (hz2.mono fh)
          exact ⟨o, e⟩)
        subst ex
        cases r1
        exact PySem.W.kia_one (PySem.W.kitx_exc (od := od) h1.cl h1.ga h1.gg h1.sb h1.ha h2.hn h2.ht h1.hm) I.kIn J h3 (fun z => nomatch z) fun tk => ⟨.bl b, H, I.kept (t' := tk) fun _ _ z => z, rfl, q⟩
      cases da with
      | exn0 hT hF => exact key rfl hT hF fun z hz => by cases hz
      | exn1 hT hF hF2 _ => exact key rfl hT hF fun z hz => by cases hz; exact ⟨_, hF2⟩
    · exact da.elim
  · exact call_isi pins s σ H _ us Q I r ⟨x, y, _, u, b, rfl, k, tyx_of fh da hn, hc.1 n b hbt, q⟩
variable {a : Expr} {p p2 pos : Pos}
theorem px_is {u : Value} {y : V} {c : Cls1} {m : M Op} {cn : Str} (hc : Cls1Ok (Sx X) u c) (ha : PY X a m) (hcl : PE X (.Name cn p2) (tC y)) (k : ClsV y u) (hm : X.mg "isinstance" = none) (hg : Gl X "isinstance" := by rfl)
    (hs1 : starEach [a, .Name cn p2] X.env = (false, eval a X.env) :: starEach [.Name cn p2] X.env := by rfl) (hpl : (backTo pos (starEach [.Name cn p2] X.env)).any (·.1) = false := by rfl) :
    PX X (.Call (.Name "isinstance" p) [a, .Name cn p2] [] pos) (eIs c m) := by
  refine ⟨fun cx W tk => PE.imp (pe_callB (call_isX hc) hg hm PyProof.Rows.boot_isinstance (pa_cons (ha.run cx W tk) (pa_cons hcl pa_nil) hs1) (by decide) (by decide) hs1 hpl) fun σ H Q ⟨F, e, r, q⟩ => ⟨F, e, r, ?_⟩⟩
  refine Okx.imp (Okx.bind q) fun o e1 k1 v F1 H1 r1 g1 od => ?_
  cases z : look e1 o with
  | none => simp only [z] at k1; exact k1.elim
  | some d =>
    simp only [z] at k1
    cases w : isD c d with
    | none => simp only [w] at k1; exact k1.elim
    | some b =>
      simp only [w] at k1
      exact ⟨F1, v, y, d, b, r1.fh, rfl, k, look_ok r1 od z, w, k1 _ F1 H1 r1 g1 (.bl b)⟩
end
end DP
set_option Elab.async false
set_option linter.all false
set_option maxRecDepth 100000
set_option maxHeartbeats 2000000
/-! DP12: errors made, raised; their fields. -/
namespace DP
open PySem PySem.Spec L2
open PyProof.Rows hiding St

abbrev veB : List Value := [.type "ValueError", .type "Exception", .type "BaseException", .type "object"]
/-- a class of errors without __init__ -/
structure Xc0 (K : PySem.W.Frag) (mg : Str → Option Value) (x : Str) : Prop where
  ex : ∃ C, mg x = some (.ref C) ∧ XcC K C ∧ PySem.W.excIn K C veB "ValueError.__new__" = true
/-- a class of errors whose __init__ keeps one argument in the field f -/
structure Xc1 (P : Program) (w : World) (K : PySem.W.Frag) (mg : Str → Option Value) (base : Heap) (x f : Str) : Prop where
  ex : ∃ C fI fd ps, mg x = some (.ref C) ∧ XcC K C ∧ OexC K C ∧ PySem.W.findIn K (.ref C) f = some none ∧ PySem.W.findIn K (.ref C) "__init__" = some (some (.ref fI)) ∧ PySem.W.typeIn K (.ref fI) = some (.type "function") ∧
    Binds K fd ps [] ∧ FnOk P w K mg base CX0 1 fI fd ps (fun vs H Q _ => ∃ (a C : Addr) (v : V), vs = [.ref a, v] ∧ OexC K C ∧ PySem.W.findIn K (.ref C) f = some none ∧ H a = some (exo a C none) ∧ ∀ dx, H dx = none → dx ≠ a → Q .non (upd (upd H dx (exd dx [(f, v)])) a (exo a C (some dx))))
theorem tS_at {K : PySem.W.Frag} {mg : Str → Option Value} {x : Str} {C : Addr} (h : mg x = some (.ref C)) : (sgOf K mg).T x = some C := by
  show (match mg x with
  | some (.ref C) => some C
  | _ => none) = some C
  rw [h]
/-- def __init__(self, f'): self.f = f' -/
theorem ok_xinit {P : Program} {w : World} {K : PySem.W.Frag} {mg : Str → Option Value} {base : Heap} {fI : Addr} {fd : FuncData} {qual : Str} {st : Stmt} {f n : Str} {q1 q2 q3 q4 : Pos} (F : Fun K "__init__" qual st fI fd) (Sc : FnScope ["self", n] ["self", n] (defScope st))
    (hb : defBody st = [.Assign [.Attribute (.Name "self" q1) f q2] (.Name n q3) q4]) (v0 : Vis (defScope st) "self") (v1 : Vis (defScope st) n) (hd1 : (n == ("__debug__" : Str)) = false) (hd2 : (n == ("__classdict__" : Str)) = false)
    (hs : ∀ env, swapsWith (.Name n q3) (some (.Attribute (.Name "self" q1) f q2)) q4.line env = pure false) :
    FnOk P w K mg base CX0 1 fI fd ["self", n] (fun vs H Q _ => ∃ (a C : Addr) (v : V), vs = [.ref a, v] ∧ OexC K C ∧ PySem.W.findIn K (.ref C) f = some none ∧ H a = some (exo a C none) ∧ ∀ dx, H dx = none → dx ≠ a → Q .non (upd (upd H dx (exd dx [(f, v)])) a (exo a C (some dx)))) := by
  refine F.ok Sc (fun vs H Q E h => ?_) (fun cdv A outer s H vs Q E hr h => ?_)
  · obtain ⟨a, C, v, rfl, _⟩ := h
    rfl
  · obtain ⟨a, C, v, rfl, hC, hf, hH, q⟩ := h
    rw [hb]
    refine ⟨_, pss_one (ps_ost (pe_var (i := 0) rfl v0 (by decide) (by decide)) (pe_var (i := 1) rfl v1 hd1 hd2) (hs _)), ?_⟩
    exact ⟨v, rfl, .ref a, rfl, a, C, rfl, hC, hf, .inl ⟨hH, fun dx h1 h2 => q dx h1 h2⟩⟩

section
variable {X : Cx} {x : Str} {a : Expr} {p pos rpos : Pos}
/-- X() -/
theorem mk0 {R : Value → Shared → Prop} {C : Addr} {s : Shared} {pins : List (Addr × Obj)} {σ : L2.St} {H : Hp} (I : Inv X pins σ H s) (gC : X.mg x = some (.ref C)) (c : XcC X.K C) (q : PySem.W.excIn X.K C veB "ValueError.__new__" = true) (hg : Gl X x) (hdb : (x == ("__debug__" : Str)) = false)
    (h : ∀ h' a, Heap.MadeExcOf s.heap h' a (.ref C) [] → R (.ref a) { s with heap := h' }) : wpAny (model X.prog X.w) X.A (eval (.Call (.Name x p) [] [] pos) X.env) R X.xe s := by
  refine wpAny_Call_Name_kw (ld_glob I hg gC ?_ hdb)
  refine PySem.W.callWith_K0 I.kIn c.kC ?_
  obtain ⟨bm, N, nm, qn, bs, hdct, sn, sub, ab, col, dd, k0, k1, k2, k3, k5, mN, hC, hN, hni, T⟩ := exc_obj I.kIn q
  obtain ⟨hp, g, dr, tk, os⟩ := s
  exact wpAny_call_exc_subT PySem.F.excBase_ValueError T hC hN hni (fun h' e hm => h h' e hm) (Nat.zero_le _)
def eExn0 (x : Str) : M D := fun e => .ok (.exn x []) e
theorem px_exn0 (c : Xc0 X.K X.mg x) (hg : Gl X x := by rfl) (hdb : (x == ("__debug__" : Str)) = false := by decide) : PX X (.Call (.Name x p) [] [] pos) (eExn0 x) := by
  obtain ⟨C, gC, c, q⟩ := c.ex
  refine ⟨fun cx W tk => ⟨fun pins s σ H Q I ⟨F, e, r, k⟩ => ?_⟩⟩
  refine mk0 I gC c q hg hdb fun h' a hm => ?_
  obtain ⟨t, ht, _, _⟩ := hm.there
  have hn : H a = none := I.hok.gone hm.new
  have J := I.laidN (o := exo a C none) (t' := s.toks) hm.keeps hm.new hn (exo_ok ht)
  have x : Ext F H (upd F a (exo a C none)) (upd H a (exo a C none)) := Ext.new r.fh hn
  exact ⟨.ref a, _, J, rfl, k _ _ _ (r.ext x) (r.gr x) (.exn0 (tS_at gC) (.inl upd_same))⟩
def sRaise0 (x : Str) : M Fl := fun e => .ex x [] e
theorem pd_raise0 (hc : X.calm = true) (c : Xc0 X.K X.mg x) (hg : Gl X x := by rfl) (hdb : (x == ("__debug__" : Str)) = false := by decide) : PSd X (.Raise (some (.Call (.Name x p) [] [] pos)) none rpos) (sRaise0 x) := by
  obtain ⟨C, gC, c, q⟩ := c.ex
  have mk : PMk X (.Call (.Name x p) [] [] pos) (fun _ H Q => Q (.ref C) none H) := fun pins s σ H Q I h =>
    mk0 I gC c q hg hdb fun h' a hm => mk_of I hm (raises_own c.sb c.ty) h (I.hok.gone hm.new)
  refine ⟨fun cx W tk pw => PS.imp (ps_raise hc tk mk) fun G σ H ⟨F, e, r, k⟩ => ?_⟩
  exact k (.ref C) none σ F H r Gr.refl ⟨C, tS_at gC, rfl, .inl ⟨rfl, rfl⟩⟩
/-! ### with a field -/
abbrev spXi (K : PySem.W.Frag) (f : Str) : Sp := fun vs H Q _ => ∃ (a C : Addr) (v : V), vs = [.ref a, v] ∧ OexC K C ∧ PySem.W.findIn K (.ref C) f = some none ∧ H a = some (exo a C none) ∧ ∀ dx, H dx = none → dx ≠ a → Q .non (upd (upd H dx (exd dx [(f, v)])) a (exo a C (some dx)))
/-- X(e) as a value -/
def tNewX (C : Addr) (f : Str) (te : TE) : TE := fun σ H Q => te σ H fun x H1 => ∃ v, [x] = [v] ∧ ∀ a dx, H1 a = none → H1 dx = none → dx ≠ a → Q (.ref a) (upd (upd (upd H1 a (exo a C none)) dx (exd dx [(f, v)])) a (exo a C (some dx)))
theorem pe_newX {C fI : Addr} {fd : FuncData} {ps : List Str} {f : Str} {te : TE} {k : Nat} (T : OexC X.K C) (nf : PySem.W.findIn X.K (.ref C) f = some none) (iC : PySem.W.findIn X.K (.ref C) "__init__" = some (some (.ref fI))) (tI : PySem.W.typeIn X.K (.ref fI) = some (.type "function"))
    (F1 : FnOk X.prog X.w X.K X.mg X.base CX0 1 fI fd ps (spXi X.K f)) (hr : Room (k + 2) X.A) (hb : Binds X.K fd ps []) (hg : Gl X x) (hm : X.mg x = some (.ref C)) (ha : PE X a te)
    (hdb : (x == ("__debug__" : Str)) = false) (he : starEach [a] X.env = (false, eval a X.env) :: starEach [] X.env) (hpl : (backTo pos (starEach [] X.env)).any (·.1) = false) :
    PE X (.Call (.Name x p) [a] [] pos) (tNewX C f te) := by
  refine ⟨fun pins s σ H Q I h => ?_⟩
  obtain ⟨nm, q, N, bs, bm, sn, sub, ab, col, dd, k0, k1, k2, k3, k5, hC, hbm⟩ := T.cls
  have pa : PA X [a] (tCons te tNil) := pa_cons ha pa_nil he
  refine wpAny_Call_Name_kw (ld_glob I hg hm ?_ hdb)
  refine PySem.W.callWith_K (h₀ := X.base) I.ok.mod.kin T.kC (thn (pa.run pos pins s σ H (fun vs H1 => ∃ v, vs = [v] ∧ ∀ a dx, H1 a = none → H1 dx = none → dx ≠ a → Q (.ref a) (upd (upd (upd H1 a (exo a C none)) dx (exd dx [(f, v)])) a (exo a C (some dx)))) I h) fun us s1 ⟨vs, H1, I1, r1, v, ev, q1⟩ => ⟨I1.kIn, ?_⟩) he hpl
  subst ev
  show wpAny _ _ (call (.ref C) us) _ _ _
  obtain ⟨hp, g, dr, tk, os⟩ := s1
  have hsz : hp.objs.size ≤ hp.objs.size + 1 := Nat.le_succ _
  have hn : H1 (hp.objs.size + 1) = none := I1.hok.fresh hsz
  have kk : ∀ b o, hp.get? b = some o → ((hp.push (PySem.W.kdv_tup us)).push (PySem.HandSPX.excO C hp.objs.size)).get? b = some o := fun b o e => Heap.get?_push_of_some _ (Heap.get?_push_of_some _ e)
  have hget : ((hp.push (PySem.W.kdv_tup us)).push (PySem.HandSPX.excO C hp.objs.size)).get? (hp.objs.size + 1) = some (PySem.HandSPX.excO C hp.objs.size) := by heap_get
  have I2 : Inv X pins σ (upd H1 (hp.objs.size + 1) (exo (hp.objs.size + 1) C none)) ⟨(hp.push (PySem.W.kdv_tup us)).push (PySem.HandSPX.excO C hp.objs.size), g, dr, tk, os⟩ :=
    I1.laid (t' := tk) (a := hp.objs.size + 1) (o := exo (hp.objs.size + 1) C none) (h' := (hp.push (PySem.W.kdv_tup us)).push (PySem.HandSPX.excO C hp.objs.size)) kk hsz (exo_ok hget)
  have r2 : Vals [V.ref (hp.objs.size + 1), v] (Value.ref (hp.objs.size + 1) :: us) := .cons rfl r1
  have hq : spXi X.K f [V.ref (hp.objs.size + 1), v] (upd H1 (hp.objs.size + 1) (exo (hp.objs.size + 1) C none)) (fun w H2 => w = .non ∧ Q (.ref (hp.objs.size + 1)) H2) (fun _ _ _ => False) :=
    ⟨hp.objs.size + 1, C, v, rfl, T, nf, upd_same, fun dx h1 h2 => ⟨rfl, q1 _ dx hn (by rw [upd_ne h2] at h1; exact h1) h2⟩⟩
  have hl : (Value.ref (hp.objs.size + 1) :: us ++ []).length = ps.length := by
    have e := r2.length
    rw [F1.len _ _ _ _ hq] at e
    rw [List.append_nil]
    exact e.symm
  have hus : us.length ≤ sizeLine := by
    rw [← Paired.length r1, sizeLine_eq]
    show 1 ≤ _
    omega
  refine wpAny_call (PySem.HandSPX.call_own PySem.F.excBase_ValueError (fun Y => PySem.HandSPX.refsVE_contains Y bm hbm) (I1.kIn _ _ hC) (PySem.W.looks_findIn I1.kIn iC) (fun self => PySem.W.bind_fn I1.kIn self tI) hus
    (codeAny_mono (F1.run _ X.stack _ _ ⟨Value.ref (hp.objs.size + 1) :: us, []⟩ (Value.ref (hp.objs.size + 1) :: us) _ _ (fun _ _ _ => False) ((hr.mono (by omega : 1 + 1 ≤ k + 2)).make C us []) (I2.env0.make C us []) (by
      have := hb _ (Value.ref (hp.objs.size + 1) :: us) I2.kIn hl
      rw [List.append_nil] at this
      exact this) r2 hq) fun r s' hq' => ?_))
  cases r with
  | error er => exact hq'.elim
  | ok fl =>
    cases fl with
    | ret u =>
      obtain ⟨v2, H2, os2, bare2, un2, hok2, rv, ev, qq⟩ := hq'
      subst ev
      refine ⟨rv, ?_⟩
      obtain ⟨w, H3, J, rw', q3⟩ := I2.after (Q := fun w H2 => w = V.ref (hp.objs.size + 1) ∧ Q (.ref (hp.objs.size + 1)) H2) (u := Value.ref (hp.objs.size + 1)) ⟨V.ref (hp.objs.size + 1), H2, os2, bare2, un2, hok2, rfl, rfl, qq⟩
      exact ⟨.ref (hp.objs.size + 1), H3, J, rfl, q3.2⟩
    | next => exact False.elim hq'
    | brk => exact False.elim hq'
    | cont => exact False.elim hq'
theorem ext2 {F H : Hp} (fh : Same F H) {a dx : Addr} {o1 o2 o3 : HO} (ha : H a = none) (hd : H dx = none) (ne : dx ≠ a) : Ext F H (upd (upd F dx o2) a o3) (upd (upd (upd H a o1) dx o2) a o3) := by
  have e : upd (upd (upd H a o1) dx o2) a o3 = upd (upd H dx o2) a o3 := by
    funext b
    by_cases h1 : b = a
    · rw [h1, upd_same, upd_same]
    · rw [upd_ne h1, upd_ne h1]
      by_cases h2 : b = dx
      · rw [h2, upd_same, upd_same]
      · rw [upd_ne h2, upd_ne h2, upd_ne h1]
  rw [e]
  have x1 : Ext F H (upd F dx o2) (upd H dx o2) := Ext.new fh hd
  exact x1.trans (Ext.new x1.fh (by rw [upd_ne (Ne.symm ne)]; exact ha))
def eExn1 (x f : Str) (m : M D) : M D := fun e => (m e).bind fun d e => .ok (.exn x [(f, d)]) e
theorem px_exn1 {f : Str} {m : M D} {k : Nat} (c : Xc1 X.prog X.w X.K X.mg X.base x f) (hr : Room (k + 2) X.A) (h : PX X a m) (hg : Gl X x := by rfl) (hdb : (x == ("__debug__" : Str)) = false := by decide) (he : starEach [a] X.env = (false, eval a X.env) :: starEach [] X.env := by rfl)
    (hpl : (backTo pos (starEach [] X.env)).any (·.1) = false := by rfl) : PX X (.Call (.Name x p) [a] [] pos) (eExn1 x f m) := by
  obtain ⟨C, fI, fd, ps, gC, c, T, nf, iC, tI, hb, F1⟩ := c.ex
  refine ⟨fun cx W tk => PE.imp (pe_newX T nf iC tI F1 hr hb hg gC (h.run cx W tk) hdb he hpl) fun σ H Q ⟨F, e, r, q⟩ => ⟨F, e, r, ?_⟩⟩
  refine Okx.imp (Okx.bind q) fun d e1 k1 v F1 H1 r1 g1 dv => ⟨v, rfl, fun a dx ha hd ne => ?_⟩
  have x := ext2 (o1 := exo a C none) (o2 := exd dx [(f, v)]) (o3 := exo a C (some dx)) r1.fh ha hd ne
  exact k1 _ _ _ (r1.ext x) (g1.trans (r1.gr x)) (.exn1 (tS_at gC) (.inl upd_same) (.inl (by rw [upd_ne ne, upd_same])) (Dats.one (dv.mono x.ff)))
def sRaise1 (x f : Str) (m : M D) : M Fl := fun e => (m e).bind fun d e => .ex x [(f, d)] e
theorem xd_old {F H : Hp} {d : Addr} {o : HO} (fh : Same F H) (hd : H d = none) : Ext F H F (upd H d o) := Ext.newO fh hd
theorem pd_raise1 {f : Str} {m : M D} {k : Nat} (hc : X.calm = true) (c : Xc1 X.prog X.w X.K X.mg X.base x f) (hr : Room (k + 2) X.A) (h : PX X a m) (hg : Gl X x := by rfl) (hdb : (x == ("__debug__" : Str)) = false := by decide)
    (he : starEach [a] X.env = (false, eval a X.env) :: starEach [] X.env := by rfl) (hpl : (backTo pos (starEach [] X.env)).any (·.1) = false := by rfl) : PSd X (.Raise (some (.Call (.Name x p) [a] [] pos)) none rpos) (sRaise1 x f m) := by
  obtain ⟨C, fI, fd, ps, gC, c, T, nf, iC, tI, hb, F1⟩ := c.ex
  refine ⟨fun cx W tk pw => PS.imp (ps_raise hc tk (pmk_oex (dvs := []) T iC tI F1 (hr.mono (by omega : 1 + 1 ≤ k + 2)) hb .nil pass0 hg gC (pa_cons (h.run cx W tk) pa_nil he) hdb he hpl)) fun G σ H ⟨F, e, r, q⟩ => ⟨F, e, r, ?_⟩⟩
  refine Okx.imp (Okx.bind q) fun d e1 k1 v F1 H1 r1 g1 dv => ⟨by show 1 ≤ 1000; omega, fun a ha => ?_⟩
  refine ⟨a, C, v, rfl, T, nf, upd_same, fun dx h1 h2 => ⟨rfl, dx, [(f, v)], upd_same, by rw [upd_ne h2, upd_same], by rw [upd_ne h2] at h1; exact h1, ?_⟩⟩
  have hd : H1 dx = none := by rw [upd_ne h2] at h1; exact h1
  have eH : upd (L2.del (upd (upd (upd H1 a (exo a C none)) dx (exd dx [(f, v)])) a (exo a C (some dx))) a) dx (.xd [(f, v)]) = upd H1 dx (.xd [(f, v)]) := by
    funext b
    by_cases h3 : b = dx
    · rw [h3, upd_same, upd_same]
    · rw [upd_ne h3, upd_ne h3]
      by_cases h4 : b = a
      · rw [h4, L2.del_same]; exact ha.symm
      · rw [L2.del_ne h4, upd_ne h4, upd_ne h3, upd_ne h4]
  rw [eH]
  have xx : Ext F1 H1 (upd F1 dx (.xd [(f, v)])) (upd H1 dx (.xd [(f, v)])) := Ext.new r1.fh hd
  exact k1 (.ref C) (some dx) σ _ _ (r1.ext xx) (g1.trans (r1.gr xx)) ⟨C, tS_at gC, rfl, .inr ⟨dx, f, v, d, rfl, rfl, upd_same, Dats.one (dv.mono xx.ff)⟩⟩
/-! ### e.f of an error -/
def fldX (ok : Str → Bool) (f : Str) : D → Option D
  | .exn n fs => if ok n = true then fs.lookup f else none
  | _ => none
def eFldX (ok : Str → Bool) (f : Str) (m : M D) : M D := fun e => (m e).bind fun d e => match fldX ok f d with
  | some z => .ok z e
  | none => .bad
def tFldX (S : Sg) (ok : Str → Bool) (f : Str) (te : TE) : TE := fun σ H Q => te σ H fun x H1 => ∃ F d z, Same F H1 ∧ Dat S F x d ∧ fldX ok f d = some z ∧ ∀ v, Dat S F v z → Q v H1
theorem pe_fldX {ok : Str → Bool} {f : Str} {te : TE} (hok : ∀ n C, ok n = true → (Sx X).T n = some C → XcC X.K C ∧ PySem.W.findIn X.K (.ref C) f = some none) (h : PE X a te)
    (hb : attributeBase a f X.env (eval a X.env) = eval a X.env) : PE X (.Attribute a f pos) (tFldX (Sx X) ok f te) := by
  refine ⟨fun pins s σ H Q I hq => ?_⟩
  refine attr_of hb (thn (h.run pins s σ H _ I hq) fun u s1 hh => ?_)
  obtain ⟨y, H1, I1, rx, F, d, z, fh, dv, hz, q⟩ := hh
  cases d with
  | exn n fs =>
    have hz' : (if ok n = true then fs.lookup f else none) = some z := hz
    by_cases hn : ok n = true
    · rw [if_pos hn] at hz'
      cases dv with
      | exn0 hT hF => cases hz'
      | @exn1 a C dx c g v z' hT hF hF2 hd =>
        obtain ⟨c, nf⟩ := hok n C hn hT
        obtain rfl : u = Value.ref a := rx
        obtain ⟨ox, vs, ho, ho1, ho2, ho3⟩ := exO_at I1.hok (hF.mono fh)
        obtain ⟨mA, hns, hr⟩ := exF_at I1.hok (hF2.mono fh)
        obtain ⟨od, hod, hl⟩ := lookIn_ns hns
        have lk : List.lookup f [(g, v)] = some v ∧ z = z' := by
          by_cases hg : f = g
          · subst hg
            have : List.lookup f [(f, z')] = some z' := by simp [List.lookup]
            rw [this] at hz'
            exact ⟨by simp [List.lookup], (Option.some.inj hz').symm⟩
          · have e2 : (f == g) = false := by simpa using hg
            have : List.lookup f [(g, z')] = none := by simp [List.lookup, e2]
            rw [this] at hz'
            cases hz'
        obtain ⟨lk, rfl⟩ := lk
        obtain ⟨w, hu, rw'⟩ := RelO.some_of (v := v) (o := mA f) (by rw [← lk]; exact hr f)
        cases hd with
        | cons hd _ =>
          have J : PySem.W.InstAt s1.heap a ox C (some od) := inst_of ho ho1 ho2 ho3 hod fun _ _ => rfl
          exact PySem.HandSPX.exc_get I1.kIn J c.ga c.gg c.sb (PySem.W.findObj_own c.hd nf rfl (by rw [hl, hu])) (handed_of rw') ⟨v, H1, I1.tok _, rw', q v hd⟩
    · rw [if_neg hn] at hz'
      cases hz'
  | _ => cases hz
theorem px_fldX {ok : Str → Bool} {f : Str} {m : M D} (hok : ∀ n C, ok n = true → (Sx X).T n = some C → XcC X.K C ∧ PySem.W.findIn X.K (.ref C) f = some none) (h : PX X a m)
    (hb : attributeBase a f X.env (eval a X.env) = eval a X.env := by rfl) : PX X (.Attribute a f pos) (eFldX ok f m) := by
  refine ⟨fun cx W tk => PE.imp (pe_fldX hok (h.run cx W tk) hb) fun σ H Q ⟨F, e, r, q⟩ => ⟨F, e, r, ?_⟩⟩
  refine Okx.imp (Okx.bind q) fun d e1 k1 v F1 H1 r1 g1 dv => ?_
  cases z : fldX ok f d with
  | none => simp only [z] at k1; exact k1.elim
  | some y =>
    simp only [z] at k1
    exact ⟨F1, d, y, r1.fh, dv, z, fun v dv => k1 v F1 H1 r1 g1 dv⟩
end
end DP
set_option Elab.async false
set_option linter.all false
set_option maxRecDepth 100000
set_option maxHeartbeats 2000000
/-! DP13: texts joined; constants of the module; slices. -/
namespace DP
open PySem PySem.Spec L2
open PyProof.Rows hiding St

def strsD : List D → Option (List Str)
  | [] => some []
  | .str x :: ds => (strsD ds).map (x :: ·)
  | _ :: _ => none
theorem strs_ok {S : Sg} {F : Hp} : ∀ {vs : List V} {ds : List D} {ys : List Str}, Dats S F vs ds → strsD ds = some ys → vs = ys.map V.str ∧ ∀ y ∈ ys, sOk y
  | _, _, ys, .nil, h => by
    have h' : some [] = some ys := h
    cases h'
    exact ⟨rfl, fun y hy => by cases hy⟩
  | _, d :: ds, ys, .cons hd ht, h => by
    cases d with
    | str x =>
      have h' : (strsD ds).map (x :: ·) = some ys := h
      obtain ⟨zs, hz, rfl⟩ := Option.map_eq_some_iff.mp h'
      obtain ⟨e, k⟩ := strs_ok ht hz
      cases hd with
      | str q =>
        refine ⟨by rw [e]; rfl, fun y hy => ?_⟩
        rcases List.mem_cons.mp hy with rfl | hy
        · exact q
        · exact k y hy
    | _ => cases h
theorem sOk_list {x : Str} : sOk x ↔ x.cps.toList.length ≤ sizeLine ∧ ∀ c ∈ x.cps.toList, c < 0x110000 := by
  unfold sOk PyData.strOk
  rw [← Array.all_toList, List.all_eq_true]
  simp [Str.length]
theorem joinL_ok {S : List Nat} (hS : ∀ c ∈ S, c < 0x110000) : ∀ {ls : List (List Nat)}, (∀ l ∈ ls, ∀ c ∈ l, c < 0x110000) → (∀ c ∈ TL.joinL S ls, c < 0x110000) ∧ (TL.joinL S ls).length ≤ (ls.map (·.length)).sum + ls.length * S.length
  | [], _ => ⟨(fun c hc => by cases hc), Nat.zero_le _⟩
  | [p], h => ⟨fun c hc => h p List.mem_cons_self c hc, by simp [TL.joinL]⟩
  | p :: q :: r, h => by
    obtain ⟨h1, h2⟩ := joinL_ok (ls := q :: r) hS fun l hl => h l (List.mem_cons_of_mem _ hl)
    refine ⟨fun c hc => ?_, ?_⟩
    · have hc' : c ∈ p ++ (S ++ TL.joinL S (q :: r)) := hc
      rcases List.mem_append.mp hc' with z | z
      · exact h p List.mem_cons_self c z
      · rcases List.mem_append.mp z with z | z
        · exact hS c z
        · exact h1 c z
    · show (p ++ (S ++ TL.joinL S (q :: r))).length ≤ _
      rw [List.length_append, List.length_append]
      simp only [List.map_cons, List.sum_cons, List.length_cons] at h2 ⊢
      have e : (r.length + 1 + 1) * S.length = (r.length + 1) * S.length + S.length := Nat.succ_mul _ _
      omega
theorem sOk_join {a : Str} {ys : List Str} (ha : sOk a) (hy : ∀ y ∈ ys, sOk y) (hz : (ys.map (·.length)).sum + ys.length * a.length ≤ 16777216) : sOk (Txt.join a ys) := by
  rw [sOk_list] at ha ⊢
  rw [TL.join_eq]
  have e : (Str.join a ys).cps.toList = TL.joinL (TL.tl a) (ys.map TL.tl) := TL.tl_join a ys
  rw [e]
  obtain ⟨h1, h2⟩ := joinL_ok (S := TL.tl a) (ls := ys.map TL.tl) ha.2 (fun l hl => by
    obtain ⟨y, hy1, rfl⟩ := List.mem_map.mp hl
    exact (sOk_list.mp (hy y hy1)).2)
  refine ⟨Nat.le_trans h2 ?_, h1⟩
  have e1 : (ys.map TL.tl).map (·.length) = ys.map (·.length) := by
    rw [List.map_map]
    refine List.map_congr_left fun y _ => ?_
    show y.cps.toList.length = y.cps.size
    simp
  have e2 : (TL.tl a).length = a.length := by
    show a.cps.toList.length = a.cps.size
    simp
  rw [e1, e2, List.length_map, sizeLine_eq]
  exact hz
def joinD (a : Str) : D → Option D
  | .lst ds => (strsD ds).bind fun ys => if (ys.map (·.length)).sum + ys.length * a.length ≤ 16777216 then some (.str (Txt.join a ys)) else none
  | _ => none
/-- a.join(e), a written text -/
def eJoin (a : Str) (m : M Op) : M D := fun e => (m e).bind fun o e => match look e o with
  | some d => (match joinD a d with
    | some z => .ok z e
    | none => .bad)
  | none => .bad
section
variable {X : Cx} {a : Expr} {pos p apos : Pos}
theorem px_join {t : Str} {j : Nat} {m : M Op} (h : PY X a m) (ht : sOk t := by exact ⟨by decide +kernel, by decide +kernel⟩) (hs : starEach [a] X.env = [(false, eval a X.env)] := by rfl)
    (hbase : attributeBase (.Constant (.str t) j p) "join" X.env (eval (.Constant (.str t) j p) X.env) = eval (.Constant (.str t) j p) X.env := by rfl) (hline : (apos.endLine == pos.line) = true := by rfl) :
    PX X (.Call (.Attribute (.Constant (.str t) j p) "join" apos) [a] [] pos) (eJoin t m) := by
  refine ⟨fun cx W tk => PE.imp (pe_join (pe_str) (h.run cx W tk) hs hbase hline) fun σ H Q ⟨F, e, r, q⟩ => ?_⟩
  refine ⟨⟨t, rfl⟩, F, e, r, Okx.imp (Okx.bind q) fun o e1 k1 v F1 H1 r1 g1 od => ?_⟩
  cases z : look e1 o with
  | none => simp only [z] at k1; exact k1.elim
  | some d =>
    simp only [z] at k1
    cases w : joinD t d with
    | none => simp only [w] at k1; exact k1.elim
    | some y =>
      simp only [w] at k1
      have dd := look_ok r1 od z
      cases d with
      | lst ds =>
        have w' : ((strsD ds).bind fun ys => if (ys.map (·.length)).sum + ys.length * t.length ≤ 16777216 then some (D.str (Txt.join t ys)) else none) = some y := w
        obtain ⟨ys, hy, hz⟩ := Option.bind_eq_some_iff.mp w'
        by_cases hl : (ys.map (·.length)).sum + ys.length * t.length ≤ 16777216
        · rw [if_pos hl] at hz
          cases hz
          obtain ⟨b, xs, rfl, h1, h2, h3⟩ := datR_lst r1.fh dd
          obtain ⟨e, k⟩ := strs_ok h2 hy
          subst e
          exact ⟨t, b, ys, rfl, rfl, .inl (.inl h1), hl, k1 _ F1 H1 r1 g1 (.str (sOk_join ht k hl))⟩
        · rw [if_neg hl] at hz
          cases hz
      | _ => cases w
/-! ### constants of the module -/
theorem px_globI {x : Str} {i : Int} {t : Tok} (hm : X.mg x = some (.int i t)) (hg : Gl X x := by rfl) (hd : (x == ("__debug__" : Str)) = false := by decide) : PX X (.Name x pos) (eCst (.int i)) := px_cst (pe_glob (v := V.int i) hg hm ⟨_, rfl⟩ hd) fun F => .int i
theorem px_globS {x z : Str} {t : Tok} (hm : X.mg x = some (.str z t)) (hz : sOk z) (hg : Gl X x := by rfl) (hd : (x == ("__debug__" : Str)) = false := by decide) : PX X (.Name x pos) (eCst (.str z)) := px_cst (pe_glob (v := V.str z) hg hm ⟨_, rfl⟩ hd) fun F => .str hz
end
end DP
set_option Elab.async false
set_option linter.all false
set_option maxRecDepth 100000
set_option maxHeartbeats 2000000
/-! DP14: the head's facts. -/
namespace DP
open PySem PySem.Spec L2
open PyProof.Rows hiding St

/-! ### the hook: checks of the part of the heap that the module's names reach, and its defs -/
abbrev Ck : Type := PySem.W.Frag → Bool
abbrev HkT : Type := List Bool × List He.FnW
def obsE (ck : List Ck) (fn : List He.DefD) (K : PySem.W.Frag) : HkT := ((ck.map fun f => f K) ++ (fn.map fun d => d.ok K), fn.map fun d => He.fnW K d.at_)
def valE (ck : List Ck) (fn : List He.DefD) : HkT := ((ck.map fun _ => true) ++ (fn.map fun _ => true), fn.map He.DefD.val)
def SaysE (ck : List Ck) (fn : List He.DefD) (K : PySem.W.Frag) : Prop := obsE ck fn K = valE ck fn
def obsEG (n : Nat) (ck : List Ck) (fn : List He.DefD) (g : Addr → Option Obj) : HkT := obsE ck fn (He.frG g (He.asD g n))
def hookE (n : Nat) (ck : List Ck) (fn : List He.DefD) : PySem.W.Hook where
  α := HkT
  obs := fun s => obsEG n ck fn s.heap.get?
  val := fun _ => valE ck fn
  says := fun _ h => ∃ K : PySem.W.Frag, K.In h ∧ SaysE ck fn K
  of := fun _ _ e => ⟨_, He.frG_in, e⟩
  keeps := fun _ _ _ ⟨K, hK, c⟩ k => ⟨K, PySem.W.Frag.In.keeps hK k, c⟩
theorem obsEG_eq {n : Nat} {ck : List Ck} {fn : List He.DefD} {g : Addr → Option Obj} {s : Shared} (h : ∀ a, g a = s.heap.get? a) : obsEG n ck fn g = (hookE n ck fn).obs s := by
  have e : g = s.heap.get? := funext h
  rw [e] <;> rfl
section
variable {ck : List Ck} {fn : List He.DefD} {K : PySem.W.Frag}
theorem SaysE.mem (c : SaysE ck fn K) {f : Ck} (h : f ∈ ck) : f K = true := by
  have c1 : (ck.map fun f => f K) ++ (fn.map fun d => d.ok K) = (ck.map fun _ => true) ++ (fn.map fun _ => true) := congrArg (fun z : HkT => z.1) c
  have c2 := List.append_inj_left c1 (by rw [List.length_map, List.length_map])
  obtain ⟨i, hi, e⟩ := List.getElem_of_mem h
  have c3 : (ck.map fun f => f K)[i]? = (ck.map fun _ => true)[i]? := by rw [c2]
  rw [List.getElem?_map, List.getElem?_map, List.getElem?_eq_getElem hi] at c3
  have c4 : ck[i] K = true := Option.some.inj c3
  rw [e] at c4
  exact c4
theorem SaysE.at (c : SaysE ck fn K) (i : Nat) {f : Ck} (h : ck[i]? = some f := by rfl) : f K = true := c.mem (List.mem_of_getElem? h)
theorem SaysE.def_ (c : SaysE ck fn K) (i : Nat) {d : He.DefD} (h : fn[i]? = some d := by rfl) : ∃ fd, FunD K d.name d.qual d.params d.body d.scope (d.dvs K) (d.kws K) (He.fAd K d.at_) fd := by
  have c1 : (ck.map fun f => f K) ++ (fn.map fun d => d.ok K) = (ck.map fun _ => true) ++ (fn.map fun _ => true) := congrArg (fun z : HkT => z.1) c
  have c2 := List.append_inj_right c1 (by rw [List.length_map, List.length_map])
  have c3 : (fn.map fun d => d.ok K)[i]? = (fn.map fun _ => true)[i]? := by rw [c2]
  rw [List.getElem?_map, List.getElem?_map, h] at c3
  have c4 : d.ok K = true := Option.some.inj c3
  have e : fn.map (fun d => He.fnW K d.at_) = fn.map He.DefD.val := congrArg (fun z : HkT => z.2) c
  have e2 : (fn.map fun d => He.fnW K d.at_)[i]? = (fn.map He.DefD.val)[i]? := by rw [e]
  rw [List.getElem?_map, List.getElem?_map, h] at e2
  exact He.DefD.funD (Option.some.inj e2) c4
end
/-- a plain def of the top -/
def dTop (x : Str) (st : Stmt) : He.DefD := ⟨(x, none), x, x, defArgs st, defBody st, defScope st, [], []⟩
/-- a method, without defaults -/
def dMeth (c m : Str) (q : Str) (st : Stmt) : He.DefD := ⟨(c, some m), m, q, defArgs st, defBody st, defScope st, [], []⟩
theorem fun_of {K : PySem.W.Frag} {x q : Str} {st : Stmt} {f : Addr} {fd : FuncData} (F : FunD K x q (defArgs st) (defBody st) (defScope st) [] [] f fd) : Fun K x q st f fd := by
  obtain ⟨oc, od, dV, kV, doc, pm, an, cdv, ct, osl, rfl, lk, hcd, hD, hK⟩ := F.ex
  rcases hD with ⟨_, rfl⟩ | ⟨e, _⟩
  · exact ⟨⟨oc, od, kV, doc, pm, an, cdv, ct, osl, rfl, lk, hcd⟩, F.kp⟩
  · exact absurd rfl e
/-- a def of the module's top, as it stands -/
def TopFn (K : PySem.W.Frag) (mg : Str → Option Value) (x : Str) (st : Stmt) : Prop := ∃ f fd, mg x = some (.ref f) ∧ Fun K x x st f fd

/-! ### checks -/
def ckGlo (x : Str) : Ck := fun K => (He.Fa.glo x).ok K
def ckFree (x : Str) : Ck := fun K => (He.Fa.free x).ok K
def xcB (K : PySem.W.Frag) (C : Addr) : Bool :=
  (PySem.W.clsIn K C).isSome && (decide (PySem.W.findIn K (.ref C) "__getattribute__" = some (some (.builtin "BaseException.__getattribute__"))) && (decide (PySem.W.findIn K (.ref C) "__getattr__" = some none) &&
  (decide (PySem.W.subIn K (.ref C) (.type "BaseException") = some true) && (decide (PySem.W.typeIn K (.ref C) = some (.type "type")) && (PySem.W.hasDictIn K C &&
  (decide (PySem.W.findIn K (.ref C) "__class__" = some (some (.builtin "object.__class__"))) && (decide (PySem.W.mroIn K C (.type "object") = some true) && PySem.W.keepIn K (.ref C))))))))
theorem xcB_ok {K : PySem.W.Frag} {C : Addr} (h : xcB K C = true) : XcC K C := by
  unfold xcB at h
  simp only [Bool.and_eq_true, decide_eq_true_eq] at h
  obtain ⟨h1, h2, h3, h4, h5, h6, h7, h8, h9⟩ := h
  exact ⟨h1, h2, h3, h4, h5, h6, h7, h8, h9⟩
def xgB (K : PySem.W.Frag) : Bool := decide (PySem.W.specialIn K (.builtin "object.__class__") "__get__" = some (some (.builtin "getset_descriptor.__get__"))) && decide (PySem.W.takesIn K (.builtin "object.__class__") = some true)
theorem xgB_ok {K : PySem.W.Frag} (h : xgB K = true) : XgC K := by
  unfold xgB at h
  simp only [Bool.and_eq_true, decide_eq_true_eq] at h
  exact ⟨h.1, h.2⟩
def oexB (K : PySem.W.Frag) (C : Addr) : Bool := (match K.lookup C with
  | some ⟨.type t, _, .cls cd, sl⟩ => decide (t = "type") && (cd.hasDict && (!cd.hasDel && ((match cd.mro with
      | .ref C' :: bm => decide (C' = C) && PySem.HandSPX.refsVE bm
      | _ => false) && (match sl.toList with
      | [_, _, _, _, some (.builtin n), _] => decide (n = "ValueError.__new__")
      | _ => false))))
  | _ => false) && decide (PySem.W.findIn K (.ref C) "__setattr__" = some (some (.builtin "object.__setattr__")))
theorem oexB_ok {K : PySem.W.Frag} {C : Addr} (c : XcC K C) (h : oexB K C = true) : OexC K C := by
  unfold oexB at h
  obtain ⟨h, h2⟩ := Bool.and_eq_true_iff.mp h
  refine ⟨?_, of_decide_eq_true h2, c.sb, c.ty, c.kC⟩
  cases q : K.lookup C with
  | none => rw [q] at h; cases h
  | some o =>
    obtain ⟨oc, od, dt, sl⟩ := o
    rw [q] at h
    cases oc with
    | type t =>
      cases dt with
      | cls cd =>
        have h' : (decide (t = "type") && (cd.hasDict && (!cd.hasDel && ((match cd.mro with
          | .ref C' :: bm => decide (C' = C) && PySem.HandSPX.refsVE bm
          | _ => false) && (match sl.toList with
          | [_, _, _, _, some (.builtin n), _] => decide (n = "ValueError.__new__")
          | _ => false))))) = true := h
        simp only [Bool.and_eq_true, decide_eq_true_eq, Bool.not_eq_true'] at h'
        obtain ⟨h1, h3, h4, h5, h6⟩ := h'
        obtain ⟨nm, bs, mro, ns, qn, hdct, sn, sub, ab, col, hdel⟩ := cd
        dsimp only at h3 h4 h5 h6
        subst h1 h3 h4
        match mro, h5 with
        | .ref C' :: bm, h50 =>
          have h51 : C' = C ∧ PySem.HandSPX.refsVE bm = true := by simpa only [Bool.and_eq_true, decide_eq_true_eq] using h50
          obtain ⟨rfl, h52⟩ := h51
          match hsl : sl.toList, h6 with
          | [k0, k1, k2, k3, some (.builtin n), k5], h6 =>
            have h7 : n = "ValueError.__new__" := of_decide_eq_true h6
            subst h7
            have e : sl = #[k0, k1, k2, k3, some (.builtin "ValueError.__new__"), k5] := by
              apply Array.ext'
              exact hsl
            subst e
            exact ⟨nm, qn, ns, bs, bm, sn, sub, ab, col, od, k0, k1, k2, k3, k5, rfl, h52⟩
      | _ => cases h
    | _ => cases dt <;> cases h
/-- a class without __init__ -/
def ckX0 (x : Str) : Ck := fun K => xcB K (He.ga K x) && PySem.W.excIn K (He.ga K x) veB "ValueError.__new__"
/-- a class whose __init__ keeps the field f -/
def ckX1 (x f : Str) : Ck := fun K => xcB K (He.ga K x) && (oexB K (He.ga K x) && (decide (PySem.W.findIn K (.ref (He.ga K x)) f = some none) && (decide (PySem.W.findIn K (.ref (He.ga K x)) "__init__" = some (some (.ref (He.ma K (He.ga K x) "__init__")))) &&
  decide (PySem.W.typeIn K (.ref (He.ma K (He.ga K x) "__init__")) = some (.type "function")))))
def ckXb (x : Str) : Ck := fun K => xcB K (He.ga K x)
def ckNo (x f : Str) : Ck := fun K => decide (PySem.W.findIn K (.ref (He.ga K x)) f = some none)
/-- isinstance of an instance of the class x for the class y -/
def ckKo (x y : Str) (b : Bool) : Ck := fun K => decide (PySem.W.kitOne K (.ref (He.ga K x)) (.ref (He.ga K y)) = some b)
def ckKoT (x : Str) (y : String) (b : Bool) : Ck := fun K => decide (PySem.W.kitOne K (.ref (He.ga K x)) (.type y) = some b)
theorem x0_of {K : PySem.W.Frag} {mg : Str → Option Value} {h : Heap} {x : Str} (X : K.In h) (G : h.Ns mainGlobals mg) (g : ckGlo x K = true) (c : ckX0 x K = true) : Xc0 K mg x := by
  obtain ⟨c1, c2⟩ := Bool.and_eq_true_iff.mp c
  exact ⟨_, He.glo_ok X G g, xcB_ok c1, c2⟩
theorem x1_of {P : Program} {w : World} {base : Heap} {K : PySem.W.Frag} {mg : Str → Option Value} {h : Heap} {x f n q : Str} {st : Stmt} {fd : FuncData} {q1 q2 q3 q4 : Pos} (X : K.In h) (G : h.Ns mainGlobals mg) (g : ckGlo x K = true) (c : ckX1 x f K = true)
    (F : FunD K "__init__" q (defArgs st) (defBody st) (defScope st) [] [] (He.fAd K (x, some "__init__")) fd)
    (hbd : defBody st = [.Assign [.Attribute (.Name "self" q1) f q2] (.Name n q3) q4]) (Sc : FnScope ["self", n] ["self", n] (defScope st)) (v0 : Vis (defScope st) "self") (v1 : Vis (defScope st) n) (hd1 : (n == ("__debug__" : Str)) = false) (hd2 : (n == ("__classdict__" : Str)) = false)
    (hs : ∀ env, swapsWith (.Name n q3) (some (.Attribute (.Name "self" q1) f q2)) q4.line env = pure false)
    (hb : ∀ (kV doc pm : Value) (an : Option Addr) (cdv ct : Value) (us : List Value), us.length = (["self", n] : List Str).length → bindArgs (PySem.W.fnOf "__init__" q (defArgs st) (defBody st) (defScope st) .none kV doc pm an cdv ct) ⟨us, []⟩ = pure ((["self", n] : List Str).zip us)) :
    Xc1 P w K mg base x f := by
  unfold ckX1 at c
  simp only [Bool.and_eq_true, decide_eq_true_eq] at c
  obtain ⟨c1, c2, c3, c4, c5⟩ := c
  have k := xcB_ok c1
  have F' := fun_of F
  exact ⟨_, He.ma K (He.ga K x) "__init__", fd, ["self", n], He.glo_ok X G g, k, oexB_ok k c2, c3, c4, c5, F'.binds hb, ok_xinit F' Sc hbd v0 v1 hd1 hd2 hs⟩
end DP
set_option Elab.async false
set_option linter.all false
set_option maxRecDepth 100000
set_option maxHeartbeats 2000000
/-! DP15: short words for printed proofs. -/
namespace DP
open PySem PySem.Spec L2
open PyProof.Rows hiding St

theorem hu64 {A : Around} {k : Nat} (hr : Room k A) : A.units + 64 < cLine := hr.units
theorem hu65 {A : Around} {k : Nat} (hr : Room k A) : A.units + 65 < cLine := by have := hr.un; omega
section
variable {P : Program} {w : World} {K : PySem.W.Frag} {mg : Str → Option Value} {base : Heap}
theorem defOk_mk {x : Str} {st : Stmt} {N ps : List Str} {pm : List Bool} {m : M Fl} {k : Nat} (T : TopFn K mg x st) (Sc : FnScope N ps (defScope st)) (hp : ps.length = pm.length) (hN : pm.length ≤ N.length)
    (hb : ∀ (kV doc pm : Value) (an : Option Addr) (cdv ct : Value) (us : List Value), us.length = ps.length → bindArgs (PySem.W.fnOf x x (defArgs st) (defBody st) (defScope st) .none kV doc pm an cdv ct) ⟨us, []⟩ = pure (ps.zip us))
    (body : ∀ (f : Addr) (cdv : Value) (A : Around) (outer : List Env) (s : Shared) (H : Hp) (E : XK), Room k (A.deeper (envOfC x (defScope st) s.heap.objs.size f cdv)) →
      PSds (cxOf (L2.CX P w) P w K mg base N x (defScope st) f cdv A outer s H E) (defBody st) m) : DefOk P w K mg base (k + 1) x pm (runD pm N.length m) := by
  obtain ⟨f, fd, hm, F⟩ := T
  exact ⟨f, fd, ps, hm, F.kp, F.binds hb, fn_D F Sc hp hN fun cdv A outer s H E hr => body f cdv A outer s H E hr⟩
theorem DefOk.up {x : Str} {pm : List Bool} {den : List D → DR} {j k : Nat} (G : DefOk P w K mg base j x pm den) (h : j ≤ k) : DefOk P w K mg base k x pm den := by
  obtain ⟨f, fd, ps, h1, h2, h3, h4⟩ := G
  exact ⟨f, fd, ps, h1, h2, h3, h4.mono h⟩
end
section
variable {X : Cx} {elt tg iter a : Expr} {pos p : Pos}
/-- name = [..], shared at once -/
theorem pd_lcS (i : Nat) {x : Str} {py spos : Pos} {m : M (List D)} {is : List Nat} {st : D → En → Option En} {cond : M Bool} {y : M D} {scope : Scope} {own : List (Str × Nat)} {ifs : List Expr} (hN : X.N.Nodup) (hc : X.calm = true) (hi : PIt X tg iter m) (ok : BlkOk X.N X.env.scope scope own)
    (hsw : swapsWith (.ListComp elt [⟨tg, iter, ifs, 0⟩] scope pos) (some (.Name x py)) spos.line X.env = pure true)
    (hg : ∀ (s : Shared) (H : Hp) (C : Addr) (cl : List (Str × Addr)) (fp : List Addr), PGd (X.blk s H scope (compEnvC scope cl C X.env) fp) tg is st)
    (ht : ∀ (s : Shared) (H : Hp) (C : Addr) (cl : List (Str × Addr)) (fp : List Addr), PTd (X.blk s H scope (compEnvC scope cl C X.env) fp) ifs cond)
    (he : ∀ (s : Shared) (H : Hp) (C : Addr) (cl : List (Str × Addr)) (fp : List Addr), PX (X.blk s H scope (compEnvC scope cl C X.env) fp) elt y) (hy : X.N[i]? = some x := by rfl) (hyl : X.env.scope.names.lookup x = some .local := by rfl) (his : ∀ i ∈ is, i ∈ own.map (·.2) := by decide)
    (hs : ∀ x, foldedSetIterable iter X.env x = pure x := by intro _; rfl) :
    PSd X (.Assign [.Name x py] (.ListComp elt [⟨tg, iter, ifs, 0⟩] scope pos) spos) (sSet i (nLc m (own.map (·.2)) st cond y)) := by
  have h := pd_lc i (X := X) (py := py) (spos := spos) hN hc hi ok hsw hg ht he hy hyl his hs
  refine ⟨fun c W tk pw => PS.imp (h.run c W tk pw) fun G σ H ⟨F, e, r, k⟩ => ⟨F, e, r, ?_⟩⟩
  have k1 := Okx.bind (r := nLc m (own.map (·.2)) st cond y e) (f := fun d e => if free e i = true then R.ok Fl.nx (e.set i (.fz d)) else R.bad) k
  show Okx _ _ _ _ ((nLc m (own.map (·.2)) st cond y e).bind fun d e => if free e i = true then R.ok Fl.nx (e.set i (.ow false d)) else R.bad) _
  cases z : nLc m (own.map (·.2)) st cond y e with
  | bad => rw [z] at k1; exact k1.elim
  | ex n fs e1 => rw [z] at k1; exact k1
  | ok d e1 =>
    rw [z] at k1
    have k2 : Okx (Sx X) c W F (if free e1 i = true then R.ok Fl.nx (e1.set i (.fz d)) else R.bad) _ := k1
    show Okx _ _ _ _ (if free e1 i = true then R.ok Fl.nx (e1.set i (.ow false d)) else R.bad) _
    by_cases hf : free e1 i = true
    · rw [if_pos hf] at k2 ⊢
      obtain ⟨hl, _⟩ := free_lt hf
      intro σ' F' H' r' g
      have hz : frz i (e1.set i (.ow false d)) = some (e1.set i (.fz d)) := by
        unfold frz
        rw [List.getElem?_set_self hl]
        show some ((e1.set i (.ow false d)).set i (.fz d)) = _
        rw [List.set_set]
      obtain ⟨F2, r2, g2⟩ := r'.frz hz
      exact k2 σ' F2 H' r2 (g.trans g2)
    · rw [if_neg hf] at k2
      exact k2.elim
def negD : D → Option D
  | .int i => some (.int (-i))
  | _ => none
def eNeg (m : M D) : M D := fun e => (m e).bind fun d e => match negD d with
  | some z => .ok z e
  | none => .bad
theorem px_neg {m : M D} (h : PX X a m) : PX X (.UnaryOp .USub a pos) (eNeg m) := by
  refine ⟨fun c W tk => PE.imp (pe_un un_neg (h.run c W tk)) fun σ H Q ⟨F, e, r, k⟩ => ⟨F, e, r, ?_⟩⟩
  refine Okx.imp (Okx.bind k) fun d e1 k1 v F1 H1 r1 g1 dv => ?_
  cases dv with
  | int i => exact ⟨i, rfl, k1 _ F1 H1 r1 g1 (.int _)⟩
  | _ => exact k1.elim
end

/-! ### isinstance by tables -/
def lk (l : List (String × Bool)) : String → Option Bool := fun n => l.lookup n
def lkS (l : List (Str × Bool)) : Str → Option Bool := fun n => l.lookup n
theorem lookup_in {α : Type} [BEq α] [LawfulBEq α] {β : Type} {a : α} {b : β} : ∀ {l : List (α × β)}, l.lookup a = some b → (a, b) ∈ l
  | [], h => by cases h
  | (x, y) :: r, h => by
    unfold List.lookup at h
    cases q : (a == x) with
    | true =>
      rw [q] at h
      have e : y = b := Option.some.inj h
      rw [beq_iff_eq.mp q, e]
      exact List.mem_cons_self
    | false =>
      rw [q] at h
      exact List.mem_cons_of_mem _ (lookup_in h)
def ckCls (u : PySem.W.Frag → Value) (bt : List (String × Bool)) (ow : List (Str × Bool)) : Ck := fun K => (bt.all fun p => decide (PySem.W.kitOne K (.type p.1) (u K) = some p.2)) && (ow.all fun p => ckGlo p.1 K && (xcB K (He.ga K p.1) && decide (PySem.W.kitOne K (.ref (He.ga K p.1)) (u K) = some p.2)))
theorem clsOk_of {K : PySem.W.Frag} {mg : Str → Option Value} {h : Heap} {u : PySem.W.Frag → Value} {bt : List (String × Bool)} {ow : List (Str × Bool)} (X : K.In h) (G : h.Ns mainGlobals mg) (g : xgB K = true) (c : ckCls u bt ow K = true) : Cls1Ok (sgOf K mg) (u K) ⟨lk bt, lkS ow⟩ := by
  obtain ⟨c1, c2⟩ := Bool.and_eq_true_iff.mp c
  refine ⟨fun n b hn => ?_, fun n b C hn hT => ?_⟩
  · exact of_decide_eq_true (List.all_eq_true.mp c1 (n, b) (lookup_in hn))
  · have q := List.all_eq_true.mp c2 (n, b) (lookup_in hn)
    obtain ⟨q1, q2⟩ := Bool.and_eq_true_iff.mp q
    obtain ⟨q2, q3⟩ := Bool.and_eq_true_iff.mp q2
    have e := tS_at (K := K) (He.glo_ok X G q1)
    rw [e] at hT
    cases hT
    exact ⟨xcB_ok q2, xgB_ok g, of_decide_eq_true q3⟩
/-- the field f of these classes is kept in their instances alone -/
def ckFld (cs : List Str) (f : Str) : Ck := fun K => cs.all fun n => ckGlo n K && (xcB K (He.ga K n) && decide (PySem.W.findIn K (.ref (He.ga K n)) f = some none))
theorem fld_of {K : PySem.W.Frag} {mg : Str → Option Value} {h : Heap} {cs : List Str} {f : Str} (X : K.In h) (G : h.Ns mainGlobals mg) (c : ckFld cs f K = true) : ∀ n C, cs.contains n = true → (sgOf K mg).T n = some C → XcC K C ∧ PySem.W.findIn K (.ref C) f = some none := fun n C hn hT => by
  have q := List.all_eq_true.mp c n (List.contains_iff_mem.mp hn)
  obtain ⟨q1, q2⟩ := Bool.and_eq_true_iff.mp q
  obtain ⟨q2, q3⟩ := Bool.and_eq_true_iff.mp q2
  have e := tS_at (K := K) (He.glo_ok X G q1)
  rw [e] at hT
  cases hT
  exact ⟨xcB_ok q2, of_decide_eq_true q3⟩
section
variable {X : Cx} {a : Expr} {p p2 pos : Pos}
theorem px_isO {c : Cls1} {m : M Op} {cn : Str} (h : ∃ C, X.mg cn = some (.ref C) ∧ Cls1Ok (Sx X) (.ref C) c) (ha : PY X a m) (hm : X.mg "isinstance" = none) (hgc : Gl X cn := by rfl) (hg : Gl X "isinstance" := by rfl) (hdb : (cn == ("__debug__" : Str)) = false := by decide)
    (hs1 : starEach [a, .Name cn p2] X.env = (false, eval a X.env) :: starEach [.Name cn p2] X.env := by rfl) (hpl : (backTo pos (starEach [.Name cn p2] X.env)).any (·.1) = false := by rfl) :
    PX X (.Call (.Name "isinstance" p) [a, .Name cn p2] [] pos) (eIs c m) := by
  obtain ⟨C, h1, h2⟩ := h
  exact px_is h2 ha (pe_glob (v := .ref C) hgc h1 rfl hdb) (.own C) hm hg hs1 hpl
theorem px_isT {c : Cls1} {m : M Op} {cn : Str} {T : String} (h : Cls1Ok (Sx X) (.type T) c) (ha : PY X a m) (hmc : X.mg cn = none) (hm : X.mg "isinstance" = none) (hv : bootBuiltins cn = some (.type T)) (hgc : Gl X cn := by rfl) (hg : Gl X "isinstance" := by rfl) (hn : cn ≠ "__name__" := by decide) (hdb : (cn == ("__debug__" : Str)) = false := by decide)
    (hs1 : starEach [a, .Name cn p2] X.env = (false, eval a X.env) :: starEach [.Name cn p2] X.env := by rfl) (hpl : (backTo pos (starEach [.Name cn p2] X.env)).any (·.1) = false := by rfl) :
    PX X (.Call (.Name "isinstance" p) [a, .Name cn p2] [] pos) (eIs c m) :=
  px_is h ha (pe_bltn (v := .ty T) hgc hmc hv rfl hn hdb) (.ty T) hm hg hs1 hpl
end
/-! ### the end of a law -/
/-- the law's own promise: True for every script -/
theorem law_end {P : Program} {w : World} {K : PySem.W.Frag} {mg : Str → Option Value} {base : Heap} {k : Nat} {den : List D → DR} (G : DefOk P w K mg base k "law" [false] den) (h : ∀ ns : List Int, ns.length ≤ 63 → ∃ ms, den [.scr ns] = .ok (.bl true) ms) :
    ∃ f fd ps, mg "law" = some (.ref f) ∧ L2.Binds K fd ps [] ∧ FnOk P w K mg base (L2.CX P w) k f fd ps (fun vs H Q _ => ∃ (a : Addr) (ns : List Int), vs = [.ref a] ∧ SqL K H a (ns.map V.int) ∧ ns.length ≤ 63 ∧ ∀ H', Q (.bl true) H') := by
  obtain ⟨f, fd, ps, h1, h2, h3, h4⟩ := G
  refine ⟨f, fd, ps, h1, h3, h4.imp fun vs H Q E hq => ?_⟩
  obtain ⟨a, ns, rfl, hS, hl, q⟩ := hq
  obtain ⟨ms, hd⟩ := h ns hl
  refine ⟨H, [.scr ns], Same.refl _, .cons (.scr hS (by rw [sizeLine_eq]; omega)) .nil, List.nodup_nil, ?_⟩
  rw [hd]
  intro v F' H' _ dv
  cases dv with
  | bl b => exact q H'
end DP
set_option Elab.async false
set_option linter.all false
set_option maxRecDepth 100000
set_option maxHeartbeats 2000000
/-! DP16: the law's own def and the end. -/
namespace DP
open PySem PySem.Spec L2
open PyProof.Rows hiding St

def LawD (P : Program) (w : World) (K : PySem.W.Frag) (mg : Str → Option Value) (k : Nat) (x : Str) (den : List D → DR) : Prop :=
  ∃ f fd, mg "law" = some (.ref f) ∧ (∀ (s : Shared) (u : Value), BindsTo s fd ⟨[u], []⟩ [(x, u)]) ∧ ∀ base : Heap, FnOk P w K mg base (L2.CX P w) k f fd [x] (spD (sgOf K mg) [false] den)
theorem law_mk {P : Program} {w : World} {K : PySem.W.Frag} {mg : Str → Option Value} {st : Stmt} {N : List Str} {x : Str} {m : M Fl} {k : Nat} (T : TopFn K mg "law" st) (Sc : FnScope N [x] (defScope st)) (hN : 1 ≤ N.length)
    (hb : ∀ (kV doc pm : Value) (an : Option Addr) (cdv ct : Value) (us : List Value), us.length = ([x] : List Str).length → bindArgs (PySem.W.fnOf "law" "law" (defArgs st) (defBody st) (defScope st) .none kV doc pm an cdv ct) ⟨us, []⟩ = pure (([x] : List Str).zip us))
    (body : ∀ (base : Heap) (f : Addr) (cdv : Value) (A : Around) (outer : List Env) (s : Shared) (H : Hp) (E : XK), Room k (A.deeper (envOfC "law" (defScope st) s.heap.objs.size f cdv)) →
      PSds (cxOf (L2.CX P w) P w K mg base N "law" (defScope st) f cdv A outer s H E) (defBody st) m) : LawD P w K mg (k + 1) x (runD [false] N.length m) := by
  obtain ⟨f, fd, hm, F⟩ := T
  refine ⟨f, fd, hm, fun s u => ?_, fun base => fn_D F Sc rfl hN fun cdv A outer s H E hr => body base f cdv A outer s H E hr⟩
  obtain ⟨oc, od, kV, doc, pm, an, cdv, ct, osl, rfl, lk, hcd⟩ := F.ex
  exact .of_eq (hb kV doc pm an cdv ct [u] rfl)

theorem walk_dp {l : PySem.W.OpenLaw} {q : Program} {loose : List Str} {XP : (Str → Option Value) → Heap → Prop} {d : DefRec} {k n : Nat} {x : Str} {den : List D → DR} {ck : List Ck} {fn : List He.DefD}
    (hn : l.most = some 63) (hdf : d.params.defaults = []) (hr : Room k callerA) (hd : d.name = "law")
    (F : ∀ (w : World) (K : PySem.W.Frag) (mg : Str → Option Value) (h : Heap), K.In h → h.Ns mainGlobals mg → SaysE ck fn K → LawD l.prog w K mg k x den)
    (M : ∀ ns : List Int, ns.length ≤ 63 → (∀ z ∈ ns, Builtin.Int.intBits z ≤ 1048576) → ∃ ms, den [.scr ns] = .ok (.bl true) ms) :
    PySem.W.WalkO q loose XP (hookE n ck fn).says l.row.toRowW d [] (fun f vs => PySem.call f vs) := by
  refine LamX.walk_ofTsE (CX := fun w => L2.CX l.prog w) (x := x) hn (by decide) hdf hr ?_ ?_
  · intro w mg fa h Y G hmg
    obtain ⟨K, KX, c⟩ := Y
    rw [hd] at hmg
    obtain ⟨f, fd, h1, h2, h3⟩ := F w K mg h KX G c
    have e := hmg.symm.trans h1
    cases e
    refine ⟨K, KX, fd, [], _, (fun _ z => nomatch z), (fun _ z => nomatch z), (fun _ z => nomatch z), h2, ?_, fun base _ _ _ => h3 base⟩
    intro H a ns hl hz _ hS
    obtain ⟨ms, hd⟩ := M ns hl hz
    refine ⟨H, [.scr ns], Same.refl _, .cons (.scr hS (by rw [sizeLine_eq]; omega)) .nil, List.nodup_nil, ?_⟩
    rw [hd]
    intro v F' H' _ dv
    cases dv with
    | bl b => rfl
  · rintro w H s e s' ⟨a, B, H', cls, d, -, -, -, -, -, -, -, z⟩
    exact z
end DP
set_option Elab.async false
set_option linter.all false
set_option maxRecDepth 100000
set_option maxHeartbeats 2000000
/-! DP17: slices. -/
namespace DP
open PySem PySem.Spec L2
open PyProof.Rows hiding St

/-- a part of a slice -/
def tP (S : Sg) (c : Bx) (W : WX) (m : M (Option Int)) : TO := fun σ H Q => ∃ F e, Rel S c F H σ e ∧ Okx S c W F (m e) fun o e' => ∀ F' H', Rel S c F' H' σ e' → Gr c F F' → Q o H'
structure PPo (X : Cx) (e : Option Expr) (m : M (Option Int)) : Prop where
  run : ∀ c W, Takes X W → PO X e (tP (Sx X) c W m)
theorem PO.imp' {X : Cx} {e : Option Expr} {t t' : TO} (h : PO X e t) (i : ∀ σ H Q, t' σ H Q → t σ H Q) : PO X e t' := ⟨fun pins s σ H Q I q => h.run pins s σ H Q I (i σ H Q q)⟩
def hNo : M (Option Int) := fun e => .ok none e
def hSo (m : M D) : M (Option Int) := fun e => (m e).bind fun d e => match d with
  | .int i => .ok (some i) e
  | _ => .bad
theorem po_no {X : Cx} : PPo X none hNo := ⟨fun c W tk => PO.imp' po_none fun σ H Q ⟨F, e, r, k⟩ => k F H r Gr.refl⟩
theorem po_so {X : Cx} {a : Expr} {m : M D} (h : PX X a m) : PPo X (some a) (hSo m) := by
  refine ⟨fun c W tk => PO.imp' (po_some (h.run c W tk)) fun σ H Q ⟨F, e, r, k⟩ => ⟨F, e, r, ?_⟩⟩
  refine Okx.imp (Okx.bind k) fun d e1 k1 v F1 H1 r1 g1 dv => ?_
  cases dv with
  | int i => exact ⟨i, rfl, k1 F1 H1 r1 g1⟩
  | _ => exact k1.elim
def cutL {α : Type} (xs : List α) (lo hi : Option Int) : List α := (xs.drop (HT.sIx xs.length 0 lo)).take (HT.sIx xs.length xs.length hi - HT.sIx xs.length 0 lo)
theorem cutL_le {α : Type} (xs : List α) (lo hi : Option Int) : (cutL xs lo hi).length ≤ xs.length := by
  unfold cutL
  rw [List.length_take, List.length_drop]
  omega
theorem Dats.cut {S : Sg} {F : Hp} {xs : List V} {ds : List D} (h : Dats S F xs ds) (lo hi : Option Int) : Dats S F (cutV xs lo hi) (cutL ds lo hi) := by
  unfold cutV cutL
  rw [h.length]
  exact (h.drop _).take _
def slD : D → Option Int → Option Int → Option D
  | .lst ds, lo, hi => some (.lst (cutL ds lo hi))
  | .tup ds, lo, hi => some (.tup (cutL ds lo hi))
  | .scr ns, lo, hi => some (.lst (cutL (ns.map D.int) lo hi))
  | .str x, lo, hi => some (.str (cutS x lo hi))
  | _, _, _ => none
theorem sOk_cut {x : Str} {lo hi : Option Int} (h : sOk x) : sOk (cutS x lo hi) := by
  rw [sOk_list] at h ⊢
  have e : (cutS x lo hi).cps.toList = (x.cps.toList.drop (HT.sIx x.length 0 lo)).take (HT.sIx x.length x.length hi - HT.sIx x.length 0 lo) := by
    show (((x.cps.toList.drop (HT.sIx x.length 0 lo)).take (HT.sIx x.length x.length hi - HT.sIx x.length 0 lo)).toArray).toList = _
    simp
  rw [e]
  refine ⟨?_, fun c hc => h.2 c (List.mem_of_mem_drop (List.mem_of_mem_take hc))⟩
  rw [List.length_take, List.length_drop]
  omega
def rSl (S : Sg) : V → Option Int → Option Int → Hp → VK → Prop := fun x lo hi H Q => ∃ F a d, Same F H ∧ DatR S F H x a ∧ slD a lo hi = some d ∧ ∀ v F' H', Ext F H F' H' → Dat S F' v d → Q v H'
section
variable {X : Cx}
theorem sl_all : SlR X (rSl (Sx X)) := by
  intro pins s σ H x v vl vu lo hi sl Q I rx hs pl pu ⟨F, a, d, fh, da, e, q⟩
  match a, da, e with
  | .lst ds, da, e =>
    cases e
    obtain ⟨p, xs, rfl, h1, h2, h3⟩ := datR_lst fh da
    refine sl_list pins s σ H _ v vl vu lo hi sl Q I rx hs pl pu ⟨p, xs, rfl, .inl h1, fun l hl => ?_⟩
    have x : Ext F H (upd F l (.lst (cutV xs lo hi))) (upd H l (.lst (cutV xs lo hi))) := Ext.new fh hl
    exact q _ _ _ x (.lst (.inl upd_same) (Nat.le_trans (cutL_le _ _ _) h3) ((h2.cut lo hi).mono x.ff))
  | .scr ns, da, e =>
    cases e
    obtain ⟨p, rfl, h1, h3⟩ := datR_scr fh da
    refine sl_list pins s σ H _ v vl vu lo hi sl Q I rx hs pl pu ⟨p, _, rfl, h1, fun l hl => ?_⟩
    have x : Ext F H (upd F l (.lst (cutV (ns.map V.int) lo hi))) (upd H l (.lst (cutV (ns.map V.int) lo hi))) := Ext.new fh hl
    exact q _ _ _ x (.lst (.inl upd_same) (Nat.le_trans (cutL_le _ _ _) (by rw [List.length_map]; exact h3)) (((Dats.ints ns).cut lo hi).mono x.ff))
  | .str z, da, e =>
    cases e
    obtain ⟨rfl, h1⟩ := datR_str da
    exact sl_str pins s σ H _ v vl vu lo hi sl Q I rx hs pl pu ⟨z, rfl, h1.1, q _ F H (Ext.refl fh) (.str (sOk_cut h1))⟩
  | .tup ds, da, e =>
    cases e
    obtain ⟨p, xs, rfl, h1, h2, h3, h4⟩ := datR_tup fh da
    refine sl_tupA pins s σ H _ v vl vu lo hi sl Q I rx hs pl pu ⟨p, xs, rfl, h1, fun ⟨w1, w2⟩ => ?_, fun _ l hl => ?_⟩
    · have e : cutL ds lo hi = ds := by
        unfold cutL
        rw [← h2.length, w1, w2, h2.length]
        simp
      rw [e] at q
      exact q _ F H (Ext.refl fh) h4
    · have x : Ext F H (upd F l (.tup (cutV xs lo hi))) (upd H l (.tup (cutV xs lo hi))) := Ext.new fh hl
      exact q _ _ _ x (.tup (SqT.of upd_same) (Nat.le_trans (cutL_le _ _ _) h3) ((h2.cut lo hi).mono x.ff))
def eSl (me : M Op) (ml mh : M (Option Int)) : M D := fun e => (me e).bind fun x e => (ml e).bind fun l e => (mh e).bind fun h e => match look e x with
  | some a => (match slD a l h with
    | some d => .ok d e
    | none => .bad)
  | none => .bad
theorem px_slice {a : Expr} {lo hi : Option Expr} {p2 pos : Pos} {me : M Op} {ml mh : M (Option Int)} (h : PY X a me) (hl : PPo X lo ml) (hu : PPo X hi mh) : PX X (.Subscript a (.Slice lo hi none p2) pos) (eSl me ml mh) := by
  refine ⟨fun c W tk => PE.imp (pe_slice sl_all (h.run c W tk) (hl.run c W tk) (hu.run c W tk)) fun σ H Q ⟨F, e, r, k⟩ => ⟨F, e, r, ?_⟩⟩
  refine Okx.imp (Okx.bind k) fun x e1 k1 v F1 H1 r1 g1 o1 => ⟨F1, e1, r1, Okx.gr (Okx.bind k1) g1 fun l e2 k2 F2 H2 r2 g2 => ⟨F2, e2, r2, Okx.gr (Okx.bind k2) (g1.trans g2) fun u e3 k3 F3 H3 r3 g3 => ?_⟩⟩
  cases z1 : look e3 x with
  | none => simp only [z1] at k3; exact k3.elim
  | some d =>
    simp only [z1] at k3
    cases z2 : slD d l u with
    | none => simp only [z2] at k3; exact k3.elim
    | some z =>
      simp only [z2] at k3
      exact ⟨F3, d, z, r3.fh, look_ok r3 (o1.mono (g2.1.trans g3.1)) z1, z2, fun v F' H' x dv => k3 v F' H' (r3.ext x) (((g1.trans g2).trans g3).trans (r3.gr x)) dv⟩
end
end DP
set_option Elab.async false
set_option linter.all false
set_option maxRecDepth 100000
set_option maxHeartbeats 2000000
/-! DP18: max, min, sum, any, all, str, sorted. -/
namespace DP
open PySem PySem.Spec L2
open PyProof.Rows hiding St

def intsD : List D → Option (List Int)
  | [] => some []
  | .int i :: ds => (intsD ds).map (i :: ·)
  | _ :: _ => none
def blsD : List D → Option (List Bool)
  | [] => some []
  | .bl i :: ds => (blsD ds).map (i :: ·)
  | _ :: _ => none
section
variable {S : Sg} {F : Hp}
theorem Dats.intsV : ∀ {vs : List V} {ds : List D} {ns : List Int}, Dats S F vs ds → intsD ds = some ns → vs = ns.map V.int
  | _, _, ns, .nil, h => by
    have h' : some [] = some ns := h
    cases h'
    rfl
  | _, _, ns, .cons (d := d) (ds := ds) dv r, h => by
    cases dv with
    | int i =>
      have h' : (intsD ds).map (i :: ·) = some ns := h
      cases z : intsD ds with
      | none => rw [z] at h'; cases h'
      | some ms =>
        rw [z] at h'
        have e : i :: ms = ns := Option.some.inj h'
        subst e
        rw [r.intsV z]
        rfl
    | _ => exact absurd h (by intro q; cases q)
theorem Dats.blsV : ∀ {vs : List V} {ds : List D} {ns : List Bool}, Dats S F vs ds → blsD ds = some ns → vs = ns.map V.bl
  | _, _, ns, .nil, h => by
    have h' : some [] = some ns := h
    cases h'
    rfl
  | _, _, ns, .cons (d := d) (ds := ds) dv r, h => by
    cases dv with
    | bl i =>
      have h' : (blsD ds).map (i :: ·) = some ns := h
      cases z : blsD ds with
      | none => rw [z] at h'; cases h'
      | some ms =>
        rw [z] at h'
        have e : i :: ms = ns := Option.some.inj h'
        subst e
        rw [r.blsV z]
        rfl
    | _ => exact absurd h (by intro q; cases q)
theorem seqR {K : PySem.W.Frag} {v : V} {ds : List D} {H : Hp} (fh : Same F H) (h : DatR S F H v (.lst ds)) : ∃ a xs, v = .ref a ∧ SqL S.K H a xs ∧ Dats S F xs ds := by
  obtain ⟨a, xs, e, h1, h2, _⟩ := datR_lst fh h
  exact ⟨a, xs, e, .inl h1, h2⟩
end
section
variable {X : Cx}
def max2D : List D → Option D
  | [.int i, .int j] => some (.int (if j > i then j else i))
  | _ => none
def min2D : List D → Option D
  | [.int i, .int j] => some (.int (if j < i then j else i))
  | _ => none
theorem d_max2 (hc : X.calm = true) : CallR X (.builtin "max") (rDs (Sx X) max2D) := CallR.imp (call_max2 hc) fun xs H Q ⟨F, ds, d, fh, da, e, q⟩ => by
  match ds, da, e with
  | [.int i, .int j], da, e =>
    cases e
    obtain ⟨x, y, rfl, h1, h2⟩ := paired2 da
    cases datR_int h1
    cases datR_int h2
    exact ⟨i, j, rfl, q _ F H (Ext.refl fh) (.int _)⟩
theorem d_min2 (hc : X.calm = true) : CallR X (.builtin "min") (rDs (Sx X) min2D) := CallR.imp (call_min2 hc) fun xs H Q ⟨F, ds, d, fh, da, e, q⟩ => by
  match ds, da, e with
  | [.int i, .int j], da, e =>
    cases e
    obtain ⟨x, y, rfl, h1, h2⟩ := paired2 da
    cases datR_int h1
    cases datR_int h2
    exact ⟨i, j, rfl, q _ F H (Ext.refl fh) (.int _)⟩
def allD : List D → Option D
  | [.lst ds] => (blsD ds).map fun bs => .bl (bs.all id)
  | _ => none
def anyD : List D → Option D
  | [.lst ds] => (blsD ds).map fun bs => .bl (bs.any id)
  | _ => none
def sumD : List D → Option D
  | [.lst ds] => (intsD ds).map fun ns => .int ns.sum
  | _ => none
theorem d_all (hc : X.calm = true) : CallR X (.builtin "all") (rDs (Sx X) allD) := CallR.imp (cr_all hc) fun xs H Q ⟨F, ds, d, fh, da, e, q⟩ => by
  match ds, da, e with
  | [.lst zs], da, e =>
    obtain ⟨v, rfl, h⟩ := paired1 da
    obtain ⟨p, ys, rfl, h1, h2⟩ := seqR (K := X.K) fh h
    cases z : blsD zs with
    | none =>
      have e' : (blsD zs).map (fun bs => D.bl (bs.all id)) = some d := e
      rw [z] at e'; cases e'
    | some bs =>
      have e' : (blsD zs).map (fun bs => D.bl (bs.all id)) = some d := e
      rw [z] at e'
      cases e'
      rw [h2.blsV z] at h1
      exact ⟨p, bs, rfl, h1, q _ F H (Ext.refl fh) (.bl _)⟩
theorem d_any (hc : X.calm = true) : CallR X (.builtin "any") (rDs (Sx X) anyD) := CallR.imp (cr_any hc) fun xs H Q ⟨F, ds, d, fh, da, e, q⟩ => by
  match ds, da, e with
  | [.lst zs], da, e =>
    obtain ⟨v, rfl, h⟩ := paired1 da
    obtain ⟨p, ys, rfl, h1, h2⟩ := seqR (K := X.K) fh h
    have e' : (blsD zs).map (fun bs => D.bl (bs.any id)) = some d := e
    cases z : blsD zs with
    | none => rw [z] at e'; cases e'
    | some bs =>
      rw [z] at e'
      cases e'
      rw [h2.blsV z] at h1
      exact ⟨p, bs, rfl, h1, q _ F H (Ext.refl fh) (.bl _)⟩
theorem d_sum (hc : X.calm = true) : CallR X (.builtin "sum") (rDs (Sx X) sumD) := CallR.imp (cr_sum hc) fun xs H Q ⟨F, ds, d, fh, da, e, q⟩ => by
  match ds, da, e with
  | [.lst zs], da, e =>
    obtain ⟨v, rfl, h⟩ := paired1 da
    obtain ⟨p, ys, rfl, h1, h2⟩ := seqR (K := X.K) fh h
    have e' : (intsD zs).map (fun bs => D.int bs.sum) = some d := e
    cases z : intsD zs with
    | none => rw [z] at e'; cases e'
    | some bs =>
      rw [z] at e'
      cases e'
      rw [h2.intsV z] at h1
      exact ⟨p, bs, rfl, h1, q _ F H (Ext.refl fh) (.int _)⟩
def maxL : List D → Option D
  | [.lst ds] => (intsD ds).bind fun ns => ns.max?.map D.int
  | _ => none
def minL : List D → Option D
  | [.lst ds] => (intsD ds).bind fun ns => ns.min?.map D.int
  | _ => none
theorem d_maxL (hc : X.calm = true) : CallR X (.builtin "max") (rDs (Sx X) maxL) := CallR.imp (cr_max hc) fun xs H Q ⟨F, ds, d, fh, da, e, q⟩ => by
  match ds, da, e with
  | [.lst zs], da, e =>
    obtain ⟨v, rfl, h⟩ := paired1 da
    obtain ⟨p, ys, rfl, h1, h2⟩ := seqR (K := X.K) fh h
    have e' : ((intsD zs).bind fun ns => ns.max?.map D.int) = some d := e
    cases z : intsD zs with
    | none => rw [z] at e'; cases e'
    | some bs =>
      rw [z] at e'
      have e' : bs.max?.map D.int = some d := e'
      cases w : bs.max? with
      | none => rw [w] at e'; cases e'
      | some m =>
        rw [w] at e'
        cases e'
        rw [h2.intsV z] at h1
        have hm := List.max?_eq_some_iff.mp w
        refine ⟨p, bs, rfl, h1, List.length_pos_of_mem hm.1, fun y hy hle => ?_⟩
        have e : y = m := Int.le_antisymm (hm.2 y hy) (hle m hm.1)
        rw [e]
        exact q _ F H (Ext.refl fh) (.int _)
theorem d_minL (hc : X.calm = true) : CallR X (.builtin "min") (rDs (Sx X) minL) := CallR.imp (cr_min hc) fun xs H Q ⟨F, ds, d, fh, da, e, q⟩ => by
  match ds, da, e with
  | [.lst zs], da, e =>
    obtain ⟨v, rfl, h⟩ := paired1 da
    obtain ⟨p, ys, rfl, h1, h2⟩ := seqR (K := X.K) fh h
    have e' : ((intsD zs).bind fun ns => ns.min?.map D.int) = some d := e
    cases z : intsD zs with
    | none => rw [z] at e'; cases e'
    | some bs =>
      rw [z] at e'
      have e' : bs.min?.map D.int = some d := e'
      cases w : bs.min? with
      | none => rw [w] at e'; cases e'
      | some m =>
        rw [w] at e'
        cases e'
        rw [h2.intsV z] at h1
        have hm := List.min?_eq_some_iff.mp w
        refine ⟨p, bs, rfl, h1, List.length_pos_of_mem hm.1, fun y hy hle => ?_⟩
        have e : y = m := Int.le_antisymm (hle m hm.1) (hm.2 y hy)
        rw [e]
        exact q _ F H (Ext.refl fh) (.int _)
def maxD : List D → Option D := orDs max2D maxL
def minD : List D → Option D := orDs min2D minL
theorem d_max (hc : X.calm = true) : CallR X (.builtin "max") (rDs (Sx X) maxD) := CallR.orDs (d_max2 hc) (d_maxL hc)
theorem d_min (hc : X.calm = true) : CallR X (.builtin "min") (rDs (Sx X) minD) := CallR.orDs (d_min2 hc) (d_minL hc)
/-! ### str -/
def strD : List D → Option D
  | [.int i] => if -1 ≤ i ∧ i.natAbs.log2 < 1920 then some (.str (Str.ofString (toString i))) else none
  | [.str x] => some (.str x)
  | _ => none
theorem sOk_int {i : Int} (h0 : -1 ≤ i) (h : i.natAbs.log2 < 1920) : sOk (Str.ofString (toString i)) := by
  have hf : (Str.ofString (toString i)).length ≤ sizeLine := int_text_fits h
  by_cases hm : i = -1
  · subst hm
    exact ⟨hf, by decide +kernel⟩
  replace h0 : 0 ≤ i := by omega
  rw [sOk_list]
  have hl : (Str.ofString (toString i)).cps.toList.length = (Str.ofString (toString i)).length := by
    show _ = (Str.ofString (toString i)).cps.size
    simp
  refine ⟨by rw [hl]; exact hf, fun c hc => ?_⟩
  obtain ⟨n, rfl⟩ := Int.eq_ofNat_of_zero_le h0
  have e : (Str.ofString (toString ((n : Nat) : Int))).cps.toList = TL.numL n := TL.tl_num n
  rw [e] at hc
  have := TL.numL_digits n c hc
  omega
theorem d_str : CallR X (.type "str") (rDs (Sx X) strD) := CallR.imp (CallR.or call_str_int SkE.call_str_str) fun xs H Q ⟨F, ds, d, fh, da, e, q⟩ => by
  match ds, da, e with
  | [.int i], da, e =>
    obtain ⟨v, rfl, h⟩ := paired1 da
    cases datR_int h
    have e' : (if -1 ≤ i ∧ i.natAbs.log2 < 1920 then some (D.str (Str.ofString (toString i))) else none) = some d := e
    by_cases hz : -1 ≤ i ∧ i.natAbs.log2 < 1920
    · rw [if_pos hz] at e'
      cases e'
      exact .inl ⟨i, rfl, hz.2, q _ F H (Ext.refl fh) (.str (sOk_int hz.1 hz.2))⟩
    · rw [if_neg hz] at e'
      cases e'
  | [.str x], da, e =>
    cases e
    obtain ⟨v, rfl, h⟩ := paired1 da
    obtain ⟨rfl, h1⟩ := datR_str h
    exact .inr ⟨x, rfl, q _ F H (Ext.refl fh) (.str h1)⟩
end
end DP
set_option Elab.async false
set_option linter.all false
set_option maxRecDepth 100000
set_option maxHeartbeats 2000000
/-! DP19: x[i] = v. -/
namespace DP
open PySem PySem.Spec L2
open PyProof.Rows hiding St

def sPut (i : Nat) (mk m : M D) : M Fl := fun e => (m e).bind fun d e => if isLst e[i]? = true then (mk e).bind fun kd e => match e[i]?, kd with
  | some (.ow b (.lst ds)), .int k => (match ixN ds.length k with
    | some j => .ok .nx (e.set i (.ow b (.lst (ds.set j d))))
    | none => .bad)
  | _, _ => .bad else .bad
section
variable {X : Cx} {a k : Expr} {pos p p2 : Pos}
theorem pd_put (i : Nat) {x : Str} {mk m : M D} (hk : PX X k mk) (h : PX X a m) (hN : X.N[i]? = some x := by rfl) (hv : Vis X.env.scope x := by first | exact Or.inl rfl | exact Or.inr (Or.inl rfl) | exact Or.inr (Or.inr rfl)) (hd : (x == ("__debug__" : Str)) = false := by decide)
    (hcd : (x == ("__classdict__" : Str)) = false := by decide) (hs : swapsWithSole [.Subscript (.Name x p) k p2] a pos.line X.env = pure false := by rfl) (hw : swappedStores [.Subscript (.Name x p) k p2] a X.env = pure none := by rfl)
    (h1 : (assignEach [.Subscript (.Name x p) k p2] X.env).map (·.2) = [assign (.Subscript (.Name x p) k p2) X.env] := by rfl)
    (ha : ∀ v, assign (.Subscript (.Name x p) k p2) X.env v = (do
      let ov ← holding [v] (eval (.Name x p) X.env)
      let iv ← holding [v, ov] (eval k X.env)
      standAt p2
      holding [v, ov, iv] (setItem ov iv v)
      release [v, ov, iv] []) := by intro _; rfl) :
    PSd X (.Assign [.Subscript (.Name x p) k p2] a pos) (sPut i mk m) := by
  refine ⟨fun c W tk pw => PS.imp (ps_asg (h.run c W tk) (pg_sub (pe_var (i := i) hN hv hd hcd) (hk.run c W tk) set_list ha) hs hw h1) fun G σ H ⟨F, e, r, q⟩ => ⟨F, e, r, ?_⟩⟩
  refine Okx.imp (Okx.bind q) fun d e1 k1 v F1 H1 r1 g1 dv => ?_
  by_cases hl : isLst e1[i]? = true
  · rw [if_pos hl] at k1
    obtain ⟨b, ds, z⟩ := isLst_ok hl
    obtain ⟨ad, p1, p2, p3, ⟨xs, p4, p5, p6⟩, p7⟩ := r1.ow z
    refine ⟨_, p1, F1, e1, r1, Okx.gr (Okx.bind k1) g1 fun kd e2 k2 kv F2 H2 r2 g2 kdv => ?_⟩
    cases z1 : e2[i]? with
    | none => simp only [z1] at k2; exact k2.elim
    | some s =>
      simp only [z1] at k2
      match s, kd, kdv, k2 with
      | .ow b1 (.lst es), .int kk, kdv, k2 =>
        cases kdv
        obtain ⟨ad', q1, q2, q3, ⟨ys, q4, q5, q6⟩, _⟩ := r2.ow z1
        rw [p1] at q1
        cases q1
        cases zj : ixN es.length kk with
        | none => simp only [zj] at k2; exact k2.elim
        | some j =>
          simp only [zj] at k2
          refine ⟨ad, ys, kk, j, rfl, rfl, q4, by rw [q5.length]; exact zj, ?_⟩
          exact k2 σ F2 _ (r2.mut z1 p1 ⟨ys.set j v, upd_same, Dats.set (dv.mono g2.1) j q5, by rw [List.length_set]; exact q6⟩) (g1.trans g2)
  · rw [if_neg hl] at k1
    exact k1.elim
end
end DP
set_option Elab.async false
set_option linter.all false
set_option maxRecDepth 100000
set_option maxHeartbeats 2000000
/-! DP20: try .. except, clauses without a name, suites that don't raise. -/
namespace DP
open PySem PySem.Spec L2
open PyProof.Rows hiding St

def noEx (r : R Fl) : R Fl := match r with
  | .ok fl e => .ok fl e
  | _ => .bad
def catchD : List ((Str → Option Bool) × M Fl) → Str → List (Str × D) → M Fl
  | [], n, fs => fun e => .ex n fs e
  | (t, s) :: r, n, fs => fun e => match t n with
    | some true => noEx (s e)
    | some false => catchD r n fs e
    | none => .bad
def sTry (m : M Fl) (hs : List ((Str → Option Bool) × M Fl)) : M Fl := fun e => match m e with
  | .ok fl e' => .ok fl e'
  | .ex n fs e' => catchD hs n fs e'
  | .bad => .bad
/-- the clauses: by class c (its answers in t) -/
inductive PHs (X : Cx) : List ExceptHandler → List (Value × ((Str → Option Bool) × M Fl)) → Prop
  | nil : PHs X [] []
  | cons {x : Str} {c : Value} {t : Str → Option Bool} {m : M Fl} {b₀ : Stmt} {suite : List Stmt} {np pos' : Pos} {hds : List ExceptHandler} {l : List (Value × ((Str → Option Bool) × M Fl))} (hc : Names X x c)
      (ht : ∀ n b C, t n = some b → (Sx X).T n = some C → PySem.W.exmOne X.K (.ref C) c = some b) (hsu : ∀ (a : Addr) (oe : Obj) (pn : List (Addr × Obj)), PSds (X.suite a ((a, oe) :: pn)) (b₀ :: suite) m) (r : PHs X hds l) :
      PHs X (.ExceptHandler (some (.Name x np)) none (b₀ :: suite) pos' :: hds) ((c, t, m) :: l)
section
variable {X : Cx}
theorem takes0 (X : Cx) : Takes X (fun _ _ _ _ => False) := by
  rintro u s' ⟨a, B, sI, pins, σ, H, cls, d, e, I, nb, up, sky, na, os, ag, w⟩
  exact w.elim
def tsOf (X : Cx) (c : Bx) (m : M Fl) : Addr → Value → Option Addr → TS := fun _ _ _ => tS (Sx X) c (fun _ _ _ _ => False) m
theorem PHs.ok {hds : List ExceptHandler} {l : List (Value × ((Str → Option Bool) × M Fl))} (c : Bx) (h : PHs X hds l) : HdsOk X hds (l.map fun z => (z.1, tsOf X c z.2.2)) := by
  induction h with
  | nil => exact .nil
  | cons hc ht hsu r ih => exact .cons hc (fun a oe cls d pn _ _ => (hsu a oe pn).run c _ (takes0 _) PassesOwn.never) ih
theorem Okx.any {S : Sg} {c : Bx} {W W' : WX} {F : Hp} {m : R Fl} {k : Fl → En → Prop} (h : Okx S c W F (noEx m) k) : Okx S c W' F m k := by
  cases m with
  | ok a e => exact h
  | ex n fs e => exact h.elim
  | bad => exact h
theorem wMany_of {c : Bx} {Wout : WX} {D₀ : Ends} {F : Hp} {hds : List ExceptHandler} {l : List (Value × ((Str → Option Bool) × M Fl))} (h : PHs X hds l) {n : Str} {fs : List (Str × D)} {e : En}
    (k : Okx (Sx X) c Wout F (catchD (l.map (·.2)) n fs e) (fun fl e' => SPost (Sx X) c F D₀ fl e')) : ∀ cls dd σ' F' H', Rel (Sx X) c F' H' σ' e → Gr c F F' → ExD (Sx X) F' H' cls dd n fs →
    wMany X.K Wout D₀ (l.map fun z => (z.1, tsOf X c z.2.2)) cls dd σ' H' := by
  induction h with
  | nil => exact k
  | cons hc ht hsu r ih =>
    rename_i x cv t m b₀ suite np pos' hds l
    intro cls dd σ' F' H' rr g ed
    obtain ⟨C, hT, rfl, rest⟩ := ed
    have k' : Okx (Sx X) c Wout F (match t n with
      | some true => noEx (m e)
      | some false => catchD (l.map (·.2)) n fs e
      | none => .bad) (fun fl e' => SPost (Sx X) c F D₀ fl e') := k
    cases z : t n with
    | none => rw [z] at k'; exact k'.elim
    | some b =>
      rw [z] at k'
      refine ⟨b, ht n b C z hT, fun hb a ha => ?_, fun hb => ?_⟩
      · subst hb
        exact ⟨F', e, rr, Okx.gr (Okx.any (m := m e) k') g fun fl e' (q : SPost (Sx X) c F D₀ fl e') => q.gr g⟩
      · subst hb
        exact ih k' _ _ _ _ _ rr g ⟨C, hT, rfl, rest⟩
theorem pd_try {body : List Stmt} {h₀ : ExceptHandler} {hds : List ExceptHandler} {pos : Pos} {m : M Fl} {l : List (Value × ((Str → Option Bool) × M Fl))} (hb : ∀ (pn : List (Addr × Obj)) (xe : Value → Shared → Prop), PSds (X.tr pn xe) body m) (hh : PHs X (h₀ :: hds) l)
    (hs : X.stack = X.env :: X.outer := by rfl) (hf : X.env.frame = some X.env.locals := by rfl) : PSd X (.Try body (h₀ :: hds) [] [] pos) (sTry m (l.map (·.2))) := by
  refine ⟨fun c W tk pw => PS.imp (ps_try_many (tb := fun W => tS (Sx X) c W m) hs hf tk (fun W pn xe tk pw => (hb pn xe).run c W tk pw) (hh.ok c)) fun G σ H ⟨F, e, r, k⟩ => ⟨F, e, r, ?_⟩⟩
  unfold sTry at k
  cases z : m e with
  | bad => rw [z] at k; exact k.elim
  | ok fl e' => rw [z] at k; exact k
  | ex n fs e' =>
    rw [z] at k
    exact wMany_of hh k
end
end DP
set_option Elab.async false
set_option linter.all false
set_option maxRecDepth 100000
set_option maxHeartbeats 2000000
/-! DP21: defs that call themselves: by fuel. -/
namespace DP
open PySem PySem.Spec L2
open PyProof.Rows hiding St

theorem pds_bad {X : Cx} {ss : List Stmt} : PSds X ss (fun _ => .bad) := by
  refine ⟨fun c W tk pw => ⟨fun pins s σ H D I h => ?_⟩⟩
  obtain ⟨F, e, r, k⟩ := h
  exact k.elim
/-- n calls deep; fewer: bad -/
def recD (pm : List Bool) (N : Nat) (ev : (List D → DR) → M Fl) : Nat → List D → DR
  | 0 => runD pm N fun _ => .bad
  | n + 1 => runD pm N (ev (recD pm N ev n))
theorem defOk_rec {P : Program} {w : World} {K : PySem.W.Frag} {mg : Str → Option Value} {base : Heap} {x : Str} {st : Stmt} {N ps : List Str} {pm : List Bool} {ev : (List D → DR) → M Fl} (k : Nat) (T : TopFn K mg x st) (Sc : FnScope N ps (defScope st)) (hp : ps.length = pm.length) (hN : pm.length ≤ N.length)
    (hb : ∀ (kV doc pm : Value) (an : Option Addr) (cdv ct : Value) (us : List Value), us.length = ps.length → bindArgs (PySem.W.fnOf x x (defArgs st) (defBody st) (defScope st) .none kV doc pm an cdv ct) ⟨us, []⟩ = pure (ps.zip us))
    (body : ∀ (j : Nat) (den : List D → DR), k ≤ j → DefOk P w K mg base j x pm den → ∀ (f : Addr) (cdv : Value) (A : Around) (outer : List Env) (s : Shared) (H : Hp) (E : XK), Room j (A.deeper (envOfC x (defScope st) s.heap.objs.size f cdv)) →
      PSds (cxOf (L2.CX P w) P w K mg base N x (defScope st) f cdv A outer s H E) (defBody st) (ev den)) : ∀ n : Nat, DefOk P w K mg base (k + 1 + n) x pm (recD pm N.length ev n)
  | 0 => defOk_mk T Sc hp hN hb fun _ _ _ _ _ _ _ _ => pds_bad
  | n + 1 => by
    have ih := defOk_rec k T Sc hp hN hb body n
    exact defOk_mk (k := k + 1 + n) T Sc hp hN hb fun f cdv A outer s H E hr => body (k + 1 + n) _ (by omega) ih f cdv A outer s H E hr
end DP
set_option Elab.async false
set_option linter.all false
set_option maxRecDepth 100000
set_option maxHeartbeats 2000000
/-! DP22: constants of the module. -/
namespace DP
open PySem PySem.Spec L2
open PyProof.Rows hiding St

def sOks (zs : List Str) : Bool := zs.all fun z => decide (z.length ≤ sizeLine) && PyData.strOk z
theorem sOks_ok {zs : List Str} (h : sOks zs = true) : ∀ z ∈ zs, sOk z := by
  intro z hz
  have := List.all_eq_true.mp h z hz
  rw [Bool.and_eq_true, decide_eq_true_eq] at this
  exact this
theorem Dats.strs {S : Sg} {F : Hp} : ∀ {zs : List Str}, (∀ z ∈ zs, sOk z) → Dats S F (zs.map V.str) (zs.map D.str)
  | [], _ => .nil
  | z :: zs, h => .cons (.str (h z List.mem_cons_self)) (Dats.strs fun y hy => h y (List.mem_cons_of_mem _ hy))
theorem px_globT {X : Cx} {pos : Pos} {x : Str} {zs : List Str} (hm : ∃ a, X.mg x = some (.ref a) ∧ ∀ H, SqT X.K H a (zs.map V.str)) (hz : sOks zs = true) (hl : zs.length ≤ 1000) (hg : Gl X x := by rfl) (hd : (x == ("__debug__" : Str)) = false := by decide) : PX X (.Name x pos) (eCst (.tup (zs.map D.str))) := by
  obtain ⟨a, h1, h2⟩ := hm
  exact px_cst (pe_glob (v := V.ref a) hg h1 rfl hd) fun F => .tup (h2 F) (by rw [List.length_map, sizeLine_eq]; omega) (Dats.strs (sOks_ok hz))
def ckGI (x : Str) (i : Int) : Ck := fun K => (He.Fa.int x i).ok K
def ckGS (x z : Str) : Ck := fun K => (He.Fa.str x z).ok K
def ckGT (x : Str) (zs : List Str) : Ck := fun K => (He.Fa.glo x).ok K && He.tupB K x (zs.map He.Dv.str)
theorem gT_of {K : PySem.W.Frag} {mg : Str → Option Value} {h : Heap} {x : Str} {zs : List Str} (X : K.In h) (G : h.Ns mainGlobals mg) (c : ckGT x zs K = true) : ∃ a, mg x = some (.ref a) ∧ ∀ H, SqT K H a (zs.map V.str) := by
  unfold ckGT at c
  rw [Bool.and_eq_true] at c
  refine ⟨_, He.glo_ok X G c.1, fun H => ?_⟩
  have z := He.tupB_ok c.2 H
  rw [List.map_map] at z
  exact z
end DP
set_option Elab.async false
set_option linter.all false
set_option maxRecDepth 100000
set_option maxHeartbeats 2000000
/-! DP23: the clauses' classes; split; extend. -/
namespace DP
open PySem PySem.Spec L2
open PyProof.Rows hiding St

/-- what is known of a class that a clause names -/
def HdF (K : PySem.W.Frag) (mg : Str → Option Value) (x : Str) (t : Str → Option Bool) : Prop :=
  ∃ c, mg x = some (.ref c) ∧ ∀ n b C, t n = some b → (sgOf K mg).T n = some C → PySem.W.exmOne K (.ref C) (.ref c) = some b
def ckHd (x : Str) (ow : List (Str × Bool)) : Ck := fun K => ckGlo x K && (ow.all fun p => ckGlo p.1 K && decide (PySem.W.exmOne K (.ref (He.ga K p.1)) (.ref (He.ga K x)) = some p.2))
theorem hd_of {K : PySem.W.Frag} {mg : Str → Option Value} {h : Heap} {x : Str} {ow : List (Str × Bool)} (X : K.In h) (G : h.Ns mainGlobals mg) (c : ckHd x ow K = true) : HdF K mg x (lkS ow) := by
  obtain ⟨c1, c2⟩ := Bool.and_eq_true_iff.mp c
  refine ⟨_, He.glo_ok X G c1, fun n b C hn hT => ?_⟩
  have q := List.all_eq_true.mp c2 (n, b) (lookup_in hn)
  obtain ⟨q1, q2⟩ := Bool.and_eq_true_iff.mp q
  have e := tS_at (K := K) (He.glo_ok X G q1)
  rw [e] at hT
  cases hT
  exact of_decide_eq_true q2
/-- the clauses, by the facts -/
inductive PHf (X : Cx) : List ExceptHandler → List ((Str → Option Bool) × M Fl) → Prop
  | nil : PHf X [] []
  | cons {x : Str} {t : Str → Option Bool} {m : M Fl} {b₀ : Stmt} {suite : List Stmt} {np pos' : Pos} {hds : List ExceptHandler} {l : List ((Str → Option Bool) × M Fl)} (hx : HdF X.K X.mg x t) (hsu : ∀ (a : Addr) (oe : Obj) (pn : List (Addr × Obj)), PSds (X.suite a ((a, oe) :: pn)) (b₀ :: suite) m) (r : PHf X hds l)
      (hg : Gl X x := by rfl) (hdb : (x == ("__debug__" : Str)) = false := by decide) :
      PHf X (.ExceptHandler (some (.Name x np)) none (b₀ :: suite) pos' :: hds) ((t, m) :: l)
theorem PHf.phs {X : Cx} {hds : List ExceptHandler} {l : List ((Str → Option Bool) × M Fl)} (h : PHf X hds l) : ∃ l' : List (Value × ((Str → Option Bool) × M Fl)), l'.map (·.2) = l ∧ PHs X hds l' := by
  induction h with
  | nil => exact ⟨[], rfl, .nil⟩
  | cons hx hsu r hg hdb ih =>
    obtain ⟨l', e, q⟩ := ih
    obtain ⟨c, h1, h2⟩ := hx
    exact ⟨(.ref c, _, _) :: l', by rw [List.map_cons, e], .cons ⟨hg, hdb, .inl h1⟩ h2 hsu q⟩
theorem pd_tryF {X : Cx} {body : List Stmt} {h₀ : ExceptHandler} {hds : List ExceptHandler} {pos : Pos} {m : M Fl} {l : List ((Str → Option Bool) × M Fl)} (hb : ∀ (pn : List (Addr × Obj)) (xe : Value → Shared → Prop), PSds (X.tr pn xe) body m) (hh : PHf X (h₀ :: hds) l)
    (hs : X.stack = X.env :: X.outer := by rfl) (hf : X.env.frame = some X.env.locals := by rfl) : PSd X (.Try body (h₀ :: hds) [] [] pos) (sTry m l) := by
  obtain ⟨l', e, q⟩ := hh.phs
  rw [← e]
  exact pd_try hb q hs hf
end DP
set_option Elab.async false
set_option linter.all false
set_option maxRecDepth 100000
set_option maxHeartbeats 2000000
/-! DP24: isinstance(x, (A, B, ..)). -/
namespace DP
open PySem PySem.Spec L2
open PyProof.Rows hiding St

def ClsTOk (S : Sg) (us : List Value) (c : Cls1) : Prop := (∀ n b, c.bt n = some b → PySem.W.kitAny S.K (.type n) us = some b) ∧ ∀ n b C, c.ow n = some b → S.T n = some C → XcC S.K C ∧ XgC S.K ∧ PySem.W.kitAny S.K (.ref C) us = some b
section
variable {X : Cx}
def rIsXT (S : Sg) (us : List Value) (c : Cls1) : List V → Hp → VK → Prop := fun xs H Q => ∃ F x tp cs d b, Same F H ∧ xs = [x, .ref tp] ∧ H tp = some (.tup cs) ∧ Paired ClsV cs us ∧ DatR S F H x d ∧ isD c d = some b ∧ Q (.bl b) H
theorem call_isXT {us : List Value} {c : Cls1} (hc : ClsTOk (Sx X) us c) : CallR X (.builtin "isinstance") (rIsXT (Sx X) us c) := by
  intro pins s σ H xs ws Q I r h
  obtain ⟨F, x, tp, cs, d, b, fh, rfl, hT, k, da, hb, q⟩ := h
  rcases isD_some hb with ⟨n, fs, rfl, hb⟩ | ⟨n, hn, hbt⟩
  · rcases da with da | ⟨a, _, da⟩
    · obtain ⟨w1, w2, rfl, r1, r2⟩ := vals2 r
      have ew : w2 = Value.ref tp := r2
      subst ew
      obtain ⟨_, its, rv, ot, t1, t2, nt, t3⟩ := (show ObjOk X.prog X.w H s.heap tp (.tup cs) from I.hok tp _ hT)
      have e3 := ClsV.all k rv
      subst e3
      obtain ⟨tc, td, tdt, tsl⟩ := ot
      simp only at t2 t3
      subst t2 t3
      have key : ∀ {a C : Addr} {dx : Option Addr}, x = .ref a → (Sx X).T n = some C → ExO F a C dx → (∀ z, dx = some z → ∃ fs, ExF F z fs) → wpAny (model X.prog X.w) X.A (call (.builtin "isinstance") [w1, .ref tp]) (EP X pins σ Q) X.xe s := fun {a C dx} ex hS hF hdx => by
        obtain ⟨g1, g2, g3⟩ := hc.2 n b C hb hS
        obtain ⟨ox, od, J⟩ := exo_inst I.hok (hF.mono fh) (fun z hz => by
          obtain ⟨fs, hz2⟩ := hdx z hz
          obtain ⟨mA, ⟨o, _, _, e, _⟩, _⟩ := exF_at I.hok (hz2.mono fh)
          exact ⟨o, e⟩)
        subst ex
        cases r1
        exact PySem.W.kia_tup (PySem.W.kitx_exc (od := od) g1.cl g1.ga g1.gg g1.sb g1.ha g2.hn g2.ht g1.hm) I.kIn J t1 g3 (fun z => nomatch z) fun tk => ⟨.bl b, H, I.kept (t' := tk) fun _ _ z => z, rfl, q⟩
      cases da with
      | exn0 hS hF => exact key rfl hS hF fun z hz => by cases hz
      | exn1 hS hF hF2 _ => exact key rfl hS hF fun z hz => by cases hz; exact ⟨_, hF2⟩
    · exact da.elim
  · exact call_isiT pins s σ H _ ws Q I r ⟨x, tp, cs, _, us, b, rfl, hT, k, tyx_of fh da hn, hc.1 n b hbt, q⟩
/-- the written classes -/
structure PCl (X : Cx) (es : List Expr) (ys : List V) (us : List Value) : Prop where
  run : PA X es (fun _ H Q => Q ys H)
  ok : Paired ClsV ys us
theorem pcl_nil : PCl X [] [] [] := ⟨pa_nil, .nil⟩
theorem pcl_cons {cn : Str} {p2 : Pos} {y : V} {u : Value} {es : List Expr} {ys : List V} {us : List Value} (h : PE X (.Name cn p2) (tC y)) (k : ClsV y u) (r : PCl X es ys us) (hs : starEach (.Name cn p2 :: es) X.env = (false, eval (.Name cn p2) X.env) :: starEach es X.env := by rfl) :
    PCl X (.Name cn p2 :: es) (y :: ys) (u :: us) := ⟨pa_cons h r.run hs, .cons k r.ok⟩
theorem pcl_ty {cn : Str} {T : String} {p2 : Pos} {es : List Expr} {ys : List V} {us : List Value} (hm : X.mg cn = none) (hv : bootBuiltins cn = some (.type T)) (r : PCl X es ys us) (hg : Gl X cn := by rfl) (hn : cn ≠ "__name__" := by decide) (hdb : (cn == ("__debug__" : Str)) = false := by decide)
    (hs : starEach (.Name cn p2 :: es) X.env = (false, eval (.Name cn p2) X.env) :: starEach es X.env := by rfl) : PCl X (.Name cn p2 :: es) (.ty T :: ys) (.type T :: us) := pcl_cons (pe_bltn (v := .ty T) hg hm hv rfl hn hdb) (.ty T) r hs
theorem pcl_own {cn : Str} {C : Addr} {p2 : Pos} {es : List Expr} {ys : List V} {us : List Value} (hm : X.mg cn = some (.ref C)) (r : PCl X es ys us) (hg : Gl X cn := by rfl) (hdb : (cn == ("__debug__" : Str)) = false := by decide)
    (hs : starEach (.Name cn p2 :: es) X.env = (false, eval (.Name cn p2) X.env) :: starEach es X.env := by rfl) : PCl X (.Name cn p2 :: es) (.ref C :: ys) (.ref C :: us) := pcl_cons (pe_glob (v := .ref C) hg hm rfl hdb) (.own C) r hs
variable {a : Expr} {p p2 pos : Pos}
theorem px_isU {us : List Value} {ys : List V} {c : Cls1} {m : M Op} {es : List Expr} (hc : ClsTOk (Sx X) us c) (ha : PY X a m) (hcl : PCl X es ys us) (hm : X.mg "isinstance" = none) (hz : ys.length ≤ 1000) {x1 : _} (hg : Gl X "isinstance" := by rfl)
    (hs1 : starEach [a, .Tuple es x1 p2] X.env = (false, eval a X.env) :: starEach [.Tuple es x1 p2] X.env := by rfl) (hs2 : starEach [.Tuple es x1 p2] X.env = (false, eval (.Tuple es x1 p2) X.env) :: starEach [] X.env := by rfl) (hpl : (backTo pos (starEach [.Tuple es x1 p2] X.env)).any (·.1) = false := by rfl) :
    PX X (.Call (.Name "isinstance" p) [a, .Tuple es x1 p2] [] pos) (eIs c m) := by
  refine ⟨fun cx W tk => PE.imp (pe_callB (call_isXT hc) hg hm PyProof.Rows.boot_isinstance (pa_cons (ha.run cx W tk) (pa_cons (pe_tup hcl.run) pa_nil hs2) hs1) (by decide) (by decide) hs1 hpl) fun σ H Q ⟨F, e, r, q⟩ => ⟨F, e, r, ?_⟩⟩
  refine Okx.imp (Okx.bind q) fun o e1 k1 v F1 H1 r1 g1 od => ⟨by rw [sizeLine_eq]; omega, fun tp htp => ?_⟩
  have x := Ext.newO (o := HO.tup ys) r1.fh htp
  have r2 := r1.ext x
  cases z : look e1 o with
  | none => simp only [z] at k1; exact k1.elim
  | some d =>
    simp only [z] at k1
    cases w : isD c d with
    | none => simp only [w] at k1; exact k1.elim
    | some b =>
      simp only [w] at k1
      exact ⟨F1, v, tp, ys, d, b, r2.fh, rfl, upd_same, hcl.ok, look_ok r2 od z, w, k1 _ F1 _ r2 (g1.trans (r1.gr x)) (.bl b)⟩
end
def ckClsT (u : PySem.W.Frag → List Value) (bt : List (String × Bool)) (ow : List (Str × Bool)) : Ck := fun K => (bt.all fun p => decide (PySem.W.kitAny K (.type p.1) (u K) = some p.2)) && (ow.all fun p => ckGlo p.1 K && (xcB K (He.ga K p.1) && decide (PySem.W.kitAny K (.ref (He.ga K p.1)) (u K) = some p.2)))
theorem clsTOk_of {K : PySem.W.Frag} {mg : Str → Option Value} {h : Heap} {u : PySem.W.Frag → List Value} {bt : List (String × Bool)} {ow : List (Str × Bool)} (X : K.In h) (G : h.Ns mainGlobals mg) (g : xgB K = true) (c : ckClsT u bt ow K = true) : ClsTOk (sgOf K mg) (u K) ⟨lk bt, lkS ow⟩ := by
  obtain ⟨c1, c2⟩ := Bool.and_eq_true_iff.mp c
  refine ⟨fun n b hn => ?_, fun n b C hn hT => ?_⟩
  · exact of_decide_eq_true (List.all_eq_true.mp c1 (n, b) (lookup_in hn))
  · have q := List.all_eq_true.mp c2 (n, b) (lookup_in hn)
    obtain ⟨q1, q2⟩ := Bool.and_eq_true_iff.mp q
    obtain ⟨q2, q3⟩ := Bool.and_eq_true_iff.mp q2
    have e := tS_at (K := K) (He.glo_ok X G q1)
    rw [e] at hT
    cases hT
    exact ⟨xcB_ok q2, xgB_ok g, of_decide_eq_true q3⟩
end DP
set_option Elab.async false
set_option linter.all false
set_option maxRecDepth 100000
set_option maxHeartbeats 2000000
/-! DP25: methods of built-in types, as values: list.index. -/
namespace DP
open PySem PySem.Spec L2
open PyProof.Rows hiding St

def tyD (T : String) : D → Bool
  | .str _ => decide (T = "str")
  | .lst _ => decide (T = "list")
  | .scr _ => decide (T = "list")
  | _ => false
theorem tyV_of {S : Sg} {F H : Hp} (fh : Same F H) {T : String} {v : V} {d : D} (h : DatR S F H v d) (t : tyD T d = true) : tyV S.K T v H := by
  cases d with
  | str x =>
    obtain ⟨rfl, _⟩ := datR_str h
    have t' : T = "str" := of_decide_eq_true t
    exact t'
  | lst ds =>
    obtain ⟨a, xs, rfl, h1, _, _⟩ := datR_lst fh h
    have t' : T = "list" := of_decide_eq_true t
    exact .inl ⟨t', xs, .inl h1⟩
  | scr ns =>
    obtain ⟨a, rfl, h1, _⟩ := datR_scr fh h
    have t' : T = "list" := of_decide_eq_true t
    exact .inl ⟨t', _, h1⟩
  | _ => cases t
def rMt (S : Sg) (f : D → List D → Option D) : V → List V → Hp → VK → Prop := fun x xs H Q => ∃ F a ds d, Same F H ∧ DatR S F H x a ∧ Paired (fun v a => DatR S F H v a) xs ds ∧ f a ds = some d ∧ ∀ v F' H', Ext F H F' H' → Dat S F' v d → Q v H'
def eMt (T : String) (f : D → List D → Option D) (mo : M Op) (m : M (List Op)) : M D := fun e => (mo e).bind fun o e => match look e o with
  | none => .bad
  | some a => if tyD T a = true then (m e).bind fun os e => (match look e o, looks e os with
      | some a', some ds => (match f a' ds with
        | some d => .ok d e
        | none => .bad)
      | _, _ => .bad) else .bad
section
variable {X : Cx} {o e : Expr} {es : List Expr} {name : Str} {apos cpos : Pos} {T id : String}
theorem px_mt {f : D → List D → Option D} {mo : M Op} {m : M (List Op)} (pa : PlainAttrs T) (slot : Slot T name id) (hty : typeOf (.builtin id) = pure (.type "method_descriptor")) (hm : MtR X id (rMt (Sx X) f)) (ho : PY X o mo) (ha : PAr X (e :: es) m)
    (hbase : attributeBase o name X.env (eval o X.env) = eval o X.env := by rfl)
    (hfew : ((backTo cpos (starEach (e :: es) X.env)).all (fun x => !x.1) && (backToKw cpos (keywordEach [] X.env)).all (fun x => x.1.isSome)
      && decide ((e :: es).length + ([] : List Keyword).length + (if ([] : List Keyword).isEmpty then 0 else 1) < 30)) = true := by rfl)
    (hline : (apos.endLine == cpos.line) = true := by rfl) (hs : starEach (e :: es) X.env = (false, eval e X.env) :: starEach es X.env := by rfl) (hplain : (backTo cpos (starEach es X.env)).any (·.1) = false := by rfl) :
    PX X (.Call (.Attribute o name apos) (e :: es) [] cpos) (eMt T f mo m) := by
  refine ⟨fun c W tk => PE.imp (pe_bm pa slot hty hm (ho.run c W tk) (ha.run c W tk) hbase hfew hline hs hplain) fun σ H Q ⟨F, e0, r, k⟩ => ⟨F, e0, r, ?_⟩⟩
  refine Okx.imp (Okx.bind k) fun x e1 k1 v F1 H1 r1 g1 o1 => ?_
  cases z : look e1 x with
  | none => simp only [z] at k1; exact k1.elim
  | some a =>
    simp only [z] at k1
    by_cases ht : tyD T a = true
    · rw [if_pos ht] at k1
      refine ⟨tyV_of r1.fh (look_ok r1 o1 z) ht, F1, e1, r1, Okx.gr (Okx.bind k1) g1 fun os e2 k2 vs F2 H2 r2 g2 o2 => ?_⟩
      cases z1 : look e2 x with
      | none => simp only [z1] at k2; exact k2.elim
      | some a' =>
        cases z2 : looks e2 os with
        | none => simp only [z1, z2] at k2; exact k2.elim
        | some ds =>
          simp only [z1, z2] at k2
          cases z3 : f a' ds with
          | none => simp only [z3] at k2; exact k2.elim
          | some d =>
            simp only [z3] at k2
            exact ⟨F2, a', ds, d, r2.fh, look_ok r2 (o1.mono g2.1) z1, looks_ok r2 o2 z2, z3, fun v F' H' x dv => k2 v F' H' (r2.ext x) ((g1.trans g2).trans (r2.gr x)) dv⟩
    · rw [if_neg ht] at k1
      exact k1.elim
/-! ### list.index -/
def idxL (x : D) : List D → Option Nat
  | [] => none
  | d :: ds => if eqB d x = true then some 0 else (idxL x ds).map (· + 1)
theorem idxL_ok (x : D) : ∀ {ds : List D} {j : Nat}, idxL x ds = some j → ∃ z, (toPs ds)[j]? = some z ∧ PyData.eqv z (toP x) = true ∧ ∀ (m : Nat) (z' : PyData), m < j → (toPs ds)[m]? = some z' → PyData.eqv z' (toP x) = false
  | d :: ds, j, h => by
    have h' : (if eqB d x = true then some 0 else (idxL x ds).map (· + 1)) = some j := h
    by_cases c : eqB d x = true
    · rw [if_pos c] at h'
      cases h'
      exact ⟨toP d, rfl, c, fun m z' hm => absurd hm (Nat.not_lt_zero _)⟩
    · rw [if_neg c] at h'
      cases w : idxL x ds with
      | none => rw [w] at h'; cases h'
      | some i =>
        rw [w] at h'
        have e : i + 1 = j := Option.some.inj h'
        subst e
        obtain ⟨z, h1, h2, h3⟩ := idxL_ok x w
        refine ⟨z, h1, h2, fun m z' hm hz => ?_⟩
        cases m with
        | zero =>
          have e : toP d = z' := Option.some.inj hz
          rw [← e]
          exact Bool.eq_false_iff.mpr c
        | succ m => exact h3 m z' (Nat.lt_of_succ_lt_succ hm) hz
def indexD : D → List D → Option D := fun a xs => match a, xs with
  | .lst ds, [x] => if pl x 64 = true ∧ pls ds 63 = true then (idxL x ds).map fun j => .int (j : Nat) else none
  | _, _ => none
theorem mt_index' (hu : X.A.units + 65 < cLine) : MtR X "list.index" (rMt (Sx X) indexD) := by
  intro pins s σ H x xs v us Q I rx rv ⟨F, a, ds, d, fh, da, dx, e, q⟩
  match a, ds, da, dx, e with
  | .lst zs, [y], da, dx, e =>
    obtain ⟨w, rfl, dw⟩ := paired1 dx
    have e' : (if pl y 64 = true ∧ pls zs 63 = true then (idxL y zs).map (fun j => D.int (j : Nat)) else none) = some d := e
    by_cases hp : pl y 64 = true ∧ pls zs 63 = true
    · rw [if_pos hp] at e'
      cases z : idxL y zs with
      | none => rw [z] at e'; cases e'
      | some j =>
        rw [z] at e'
        cases e'
        obtain ⟨u, h1, h2, h3⟩ := idxL_ok y z
        obtain ⟨k1, k2⟩ := dp_list fh da hp.2
        obtain ⟨l1, l2, l3⟩ := dpR_of fh dw hp.1
        obtain ⟨p, ps, rfl, _, _, _⟩ := datR_lst fh da
        exact mt_indexD hu pins s σ H _ _ v us Q I rx rv ⟨p, w, _, _, j, u, rfl, rfl, k1, l1, k2, shaped_of l2 l3 (Nat.le_refl _), h1, h2, h3, q _ F H (Ext.refl fh) (.int _)⟩
    · rw [if_neg hp] at e'
      cases e'
end
end DP
set_option Elab.async false
set_option linter.all false
set_option maxRecDepth 100000
set_option maxHeartbeats 2000000
/-! DP26: str.split. -/
namespace DP
open PySem PySem.Spec L2
open PyProof.Rows hiding St

theorem mem_joinL {S : List Nat} : ∀ {ls : List (List Nat)} {p : List Nat}, p ∈ ls → (∀ c ∈ p, c ∈ TL.joinL S ls) ∧ p.length ≤ (TL.joinL S ls).length
  | [q], p, h => by
    rcases List.mem_cons.mp h with rfl | h
    · exact ⟨fun c hc => hc, Nat.le_refl _⟩
    · cases h
  | q :: q2 :: r, p, h => by
    have e : TL.joinL S (q :: q2 :: r) = q ++ (S ++ TL.joinL S (q2 :: r)) := rfl
    rw [e, List.length_append, List.length_append]
    rcases List.mem_cons.mp h with rfl | h
    · exact ⟨fun c hc => List.mem_append_left _ hc, by omega⟩
    · obtain ⟨h1, h2⟩ := mem_joinL (ls := q2 :: r) h
      exact ⟨fun c hc => List.mem_append_right _ (List.mem_append_right _ (h1 c hc)), by omega⟩
theorem cnt_joinL {S : List Nat} (hS : S ≠ []) : ∀ ls : List (List Nat), ls.length ≤ (TL.joinL S ls).length + 1
  | [] => Nat.zero_le _
  | [q] => by show 1 ≤ _; omega
  | q :: q2 :: r => by
    have h := cnt_joinL hS (q2 :: r)
    have e : TL.joinL S (q :: q2 :: r) = q ++ (S ++ TL.joinL S (q2 :: r)) := rfl
    have hp : 0 < S.length := List.length_pos_iff.mpr hS
    rw [e, List.length_append, List.length_append]
    simp only [List.length_cons] at h ⊢
    omega
theorem split_ok {a b : Str} (ha : sOk a) (hb : (b.length == 0) = false) : (∀ z ∈ Txt.split a b, sOk z) ∧ (Txt.split a b).length ≤ a.length + 1 := by
  have e : TL.joinL (TL.tl b) ((Txt.split a b).map TL.tl) = a.cps.toList := by
    rw [← TL.tl_join, PySem.StrLaws.join_split]
  rw [sOk_list] at ha
  have hal : a.cps.toList.length = a.length := by
    show _ = a.cps.size
    simp
  have hbn : TL.tl b ≠ [] := by
    intro z
    have z' : b.cps.toList.length = 0 := by rw [show b.cps.toList = [] from z]; rfl
    have : b.length = 0 := by
      show b.cps.size = 0
      simpa using z'
    rw [this] at hb
    cases hb
  refine ⟨fun z hz => ?_, ?_⟩
  · rw [sOk_list]
    obtain ⟨h1, h2⟩ := mem_joinL (S := TL.tl b) (List.mem_map_of_mem (f := TL.tl) hz)
    rw [e] at h1 h2
    exact ⟨Nat.le_trans h2 ha.1, fun c hc => ha.2 c (h1 c hc)⟩
  · have h := cnt_joinL hbn ((Txt.split a b).map TL.tl)
    rw [e, List.length_map, hal] at h
    exact h
def splitD : D → List D → Option D := fun a xs => match a, xs with
  | .str a, [.str b] => if (b.length == 0) = false ∧ a.length + 2 ≤ sizeLine then some (.lst ((Txt.split a b).map D.str)) else none
  | _, _ => none
theorem mt_split' {X : Cx} : MtR X "str.split" (rMt (Sx X) splitD) := by
  intro pins s σ H x xs v us Q I rx rv ⟨F, a, ds, d, fh, da, dx, e, q⟩
  match a, ds, da, dx, e with
  | .str a, [.str b], da, dx, e =>
    obtain ⟨w, rfl, dw⟩ := paired1 dx
    obtain ⟨rfl, h1⟩ := datR_str da
    obtain ⟨rfl, h2⟩ := datR_str dw
    have e' : (if (b.length == 0) = false ∧ a.length + 2 ≤ sizeLine then some (D.lst ((Txt.split a b).map D.str)) else none) = some d := e
    by_cases hp : (b.length == 0) = false ∧ a.length + 2 ≤ sizeLine
    · rw [if_pos hp] at e'
      cases e'
      obtain ⟨k1, k2⟩ := split_ok h1 hp.1
      refine mt_split pins s σ H _ _ v us Q I rx rv ⟨a, b, rfl, rfl, hp.1, hp.2, fun p hn => ?_⟩
      have x : Ext F H (upd F p (.lst ((Txt.split a b).map V.str))) (upd H p (.lst ((Txt.split a b).map V.str))) := Ext.new fh hn
      exact q _ _ _ x (.lst (.inl upd_same) (by rw [List.length_map]; omega) (Dats.strs k1))
    · rw [if_neg hp] at e'
      cases e'
end DP
set_option Elab.async false
set_option linter.all false
set_option maxRecDepth 100000
set_option maxHeartbeats 2000000
/-! DP27: range with a step; x.extend(y). -/
namespace DP
open PySem PySem.Spec L2
open PyProof.Rows hiding St

def rngs3 (i c : Int) (n : Nat) : List D := (List.range n).map fun k => .int (i + (k : Nat) * c)
def iRg3 (m : M (List Op)) : M (List D) := fun e => (m e).bind fun os e => match os with
  | [.va (.int i), .va (.int j), .va (.int c)] => if c ≠ 0 ∧ c.natAbs < 1073741824 ∧ Builtin.Range.small i j c = true ∧ 0 ≤ Builtin.Range.rangeSize i j c then .ok (rngs3 i c (Builtin.Range.rangeSize i j c).toNat) e else .bad
  | _ => .bad
theorem itok_rng3 {S : Sg} {F : Hp} {i c : Int} {n : Nat} : ItOk S F (Itc i c n) (rngs3 i c n) := fun F' H' fm fh k => by
  unfold rngs3
  refine ⟨fun d hi => ?_, fun hi => ?_⟩
  · rw [List.getElem?_map, Option.map_eq_some_iff] at hi
    obtain ⟨q, hq, rfl⟩ := hi
    obtain ⟨hl, hq2⟩ := List.getElem?_eq_some_iff.mp hq
    rw [List.length_range] at hl
    rw [List.getElem_range] at hq2
    subst hq2
    refine ⟨hl, fun v H'' hy => ?_⟩
    obtain ⟨rfl, rfl⟩ := hy
    exact ⟨F', Ext.refl fh, .int _⟩
  · rw [List.length_map, List.length_range] at hi
    exact hi
section
variable {X : Cx} {tg a b c : Expr} {p pos : Pos}
theorem pi_rg3 {m : M (List Op)} (h : PAr X [a, b, c] m) (hm : X.mg "range" = none) (hg : Gl X "range" := by rfl) (hs : starEach [a, b, c] X.env = (false, eval a X.env) :: starEach [b, c] X.env := by rfl) (hpl : (backTo pos (starEach [b, c] X.env)).any (·.1) = false := by rfl) :
    PIt X tg (.Call (.Name "range" p) [a, b, c] [] pos) (iRg3 m) := by
  refine ⟨fun cx W tk => PI.imp (pi_range3 hg hm (h.run cx W tk) hs hpl) fun σ H Q ⟨F, e, r, k⟩ => ⟨F, e, r, ?_⟩⟩
  refine Okx.imp (Okx.bind k) fun os e1 k1 vs F1 H1 r1 g1 o1 => ?_
  match os, o1, k1 with
  | [.va (.int i), .va (.int j), .va (.int cc)], .cons h1 (.cons h2 (.cons h3 .nil)), k1 =>
    by_cases hj : cc ≠ 0 ∧ cc.natAbs < 1073741824 ∧ Builtin.Range.small i j cc = true ∧ 0 ≤ Builtin.Range.rangeSize i j cc
    · simp only [if_pos hj] at k1
      cases h1
      cases h2
      cases h3
      exact ⟨i, j, cc, _, rfl, ⟨hj.1, hj.2.1, hj.2.2.1, (Int.toNat_of_nonneg hj.2.2.2).symm⟩, k1 _ F1 H1 r1 g1 itok_rng3⟩
    · simp only [if_neg hj] at k1
      exact k1.elim
end
end DP
set_option Elab.async false
set_option linter.all false
set_option maxRecDepth 100000
set_option maxHeartbeats 2000000
/-! DP28: x.extend(y). -/
namespace DP
open PySem PySem.Spec L2
open PyProof.Rows hiding St

def rExtR : V → List V → Hp → VK → Prop := fun x vs H Q => ∃ l b xs zs, x = .ref l ∧ vs = [.ref b] ∧ H l = some (.lst xs) ∧ Rd H b (.lst zs) ∧ xs.length + zs.length ≤ sizeLine ∧ Q .non (upd H l (.lst (xs ++ zs)))
theorem mt_ext {X : Cx} : MtR X "list.extend" rExtR := by
  rintro pins s σ H x vs v us Q I rx rv ⟨l, b, xs, zs, e1, e2, hl, hb, hz, q⟩
  subst e1 e2
  cases rx
  obtain ⟨w, ew, rw'⟩ := rv.one
  subst ew
  cases rw'
  obtain ⟨_, as, na, ra, _, ea⟩ := I.lstM hl
  obtain ⟨_, bs, nb, rb, eb⟩ := hb.ok I.hok
  have la := ra.length
  have lb := rb.length
  have sz : as.toArray.size + bs.toArray.size ≤ sizeLine := by
    simp only [List.size_toArray]
    omega
  have nl : ¬ (!as.toArray.isEmpty && Builtin.List.listTooLong (as.toArray.size + bs.toArray.size)) = true := fun z => by
    rw [notLongL sz, Bool.and_false] at z
    cases z
  have go := AutoSeq1.list_extend_list_list_0 l as.toArray na b bs.toArray nb nl (by simp only [List.size_toArray]; omega) (by simp only [List.size_toArray]; omega)
  refine call_meets F.slot_list_extend ⟨_, ea, rfl⟩
    F.entry_list_extend (F.args_list_extend_2 _ _) go
    ⟨ea, eb, .non, _, I.lset (its' := as ++ bs) hl ea (by simp) (ra.append rb) (by rw [List.length_append]; omega), rfl, q⟩
def sExt (i : Nat) (m : M D) : M Fl := fun e => if isLst e[i]? = true then (m e).bind fun d e => match e[i]?, d with
  | some (.ow b (.lst ds)), .lst zs => if ds.length + zs.length ≤ sizeLine then .ok .nx (e.set i (.ow b (.lst (ds ++ zs)))) else .bad
  | _, _ => .bad else .bad
section
variable {X : Cx} {a : Expr} {pos p cpos apos : Pos}
theorem pd_ext (i : Nat) {x : Str} {m : M D} (h : PX X a m) (hN : X.N[i]? = some x := by rfl) (hv : Vis X.env.scope x := by first | exact Or.inl rfl | exact Or.inr (Or.inl rfl) | exact Or.inr (Or.inr rfl)) (hd : (x == ("__debug__" : Str)) = false := by decide)
    (hcd : (x == ("__classdict__" : Str)) = false := by decide)
    (hbase : attributeBase (.Name x p) ("extend" : Str) X.env (eval (.Name x p) X.env) = eval (.Name x p) X.env := by rfl)
    (hfew : ((backTo cpos (starEach [a] X.env)).all (fun x => !x.1) && (backToKw cpos (keywordEach [] X.env)).all (fun x => x.1.isSome)
      && decide ([a].length + ([] : List Keyword).length + (if ([] : List Keyword).isEmpty then 0 else 1) < 30)) = true := by rfl)
    (hline : (apos.endLine == cpos.line) = true := by rfl) (hs : starEach [a] X.env = (false, eval a X.env) :: starEach [] X.env := by rfl) (hplain : (backTo cpos (starEach [] X.env)).any (·.1) = false := by rfl)
    (hsw : swapsWith (.Call (.Attribute (.Name x p) "extend" apos) [a] [] cpos) none pos.line X.env = pure false := by rfl) :
    PSd X (.Expr (.Call (.Attribute (.Name x p) "extend" apos) [a] [] cpos) pos) (sExt i m) := by
  refine ⟨fun c W tk pw => PS.imp (ps_expr (pe_bm PySem.F.plainAttrs_list PySem.F.slot_list_extend PySem.F.type_list_extend mt_ext (pe_var (i := i) hN hv hd hcd) (pa_cons (h.run c W tk) pa_nil hs) hbase hfew hline hs hplain) hsw) fun G σ H ⟨F, e, r, q⟩ => ?_⟩
  unfold sExt at q
  by_cases hl : isLst e[i]? = true
  · rw [if_pos hl] at q
    obtain ⟨b, ds, z⟩ := isLst_ok hl
    obtain ⟨ad, h1, h2, h3, ⟨xs, h4, _, _⟩, h5⟩ := r.ow z
    refine ⟨_, h1, .inl ⟨rfl, _, SqL.of h4⟩, F, e, r, Okx.imp (Okx.bind q) fun d e1 k1 v F1 H1 r1 g1 dv => ?_⟩
    cases z1 : e1[i]? with
    | none => simp only [z1] at k1; exact k1.elim
    | some s =>
      simp only [z1] at k1
      match s, d, dv, k1 with
      | .ow b1 (.lst es), .lst zs, dv, k1 =>
        obtain ⟨ad', p1, p2, p3, ⟨ys, p4, p5, p6⟩, _⟩ := r1.ow z1
        rw [h1] at p1
        cases p1
        by_cases hz : es.length + zs.length ≤ sizeLine
        · simp only [hz, if_true] at k1
          obtain ⟨bd, ws, rfl, w1, w2, w3⟩ := datR_lst r1.fh (.inl dv)
          refine ⟨ad, bd, ys, ws, rfl, rfl, p4, w1, by rw [p5.length, w2.length]; exact hz, ?_⟩
          exact k1 σ F1 _ (r1.mut z1 h1 ⟨ys ++ ws, upd_same, p5.append w2, by rw [List.length_append]; exact hz⟩) g1
        · simp only [hz, if_false] at k1
          exact k1.elim
  · rw [if_neg hl] at q
    exact q.elim
end
end DP
set_option Elab.async false
set_option linter.all false
set_option maxRecDepth 100000
set_option maxHeartbeats 2000000
/-! DP29: f-strings. -/
namespace DP
open PySem PySem.Spec L2
open PyProof.Rows hiding St

def eFm (m : M D) : M D := fun e => (m e).bind fun d e => match strD [d] with
  | some z => .ok z e
  | none => .bad
def eJs : List (M D) → Str → M D
  | [], acc => fun e => .ok (.str acc) e
  | m :: ms, acc => fun e => (m e).bind fun d e => match d with
    | .str y => if (acc ++ y).length ≤ sizeLine then eJs ms (acc ++ y) e else .bad
    | _ => .bad
theorem len_cat (x y : Str) : (x ++ y).length = x.length + y.length := by
  show (x.cps ++ y.cps).size = _
  rw [Array.size_append]
  rfl
section
variable {X : Cx} {a : Expr} {pos : Pos}
theorem px_fm {m : M D} (h : PX X a m) : PX X (.FormattedValue a (-1) none pos) (eFm m) := by
  refine ⟨fun c W tk => PE.imp (pe_fmt (h.run c W tk)) fun σ H Q ⟨F, e, r, k⟩ => ⟨F, e, r, ?_⟩⟩
  refine Okx.imp (Okx.bind k) fun d e1 k1 v F1 H1 r1 g1 dv => ?_
  cases dv with
  | str hx => exact .inl ⟨_, rfl, hx.1, k1 _ F1 H1 r1 g1 (.str hx)⟩
  | int i =>
    by_cases hz : -1 ≤ i ∧ i.natAbs.log2 < 1920
    · have e2 : strD [.int i] = some (.str (Str.ofString (toString i))) := if_pos hz
      rw [e2] at k1
      exact .inr ⟨i, rfl, hz.2, k1 _ F1 H1 r1 g1 (.str (sOk_int hz.1 hz.2))⟩
    · have e2 : strD [.int i] = none := if_neg hz
      rw [e2] at k1
      exact k1.elim
  | _ => exact k1.elim
inductive PJd (X : Cx) : List Expr → List (M D) → Prop
  | nil : PJd X [] []
  | cons {e : Expr} {es : List Expr} {m : M D} {ms : List (M D)} (h : PX X e m) (r : PJd X es ms) : PJd X (e :: es) (m :: ms)
theorem PJd.pj {es : List Expr} {ms : List (M D)} (h : PJd X es ms) (c : Bx) (W : WX) (tk : Takes X W) : PJ X es (ms.map fun m => tX (Sx X) c W m) := by
  induction h with
  | nil => exact .nil
  | cons h r ih => exact .cons (h.run c W tk) ih
theorem js_of {S : Sg} {c : Bx} {W : WX} {σ : L2.St} {Q : VK} : ∀ (ms : List (M D)) (acc : Str) (H : Hp), sOk acc → tX S c W (eJs ms acc) σ H Q → tJs (ms.map fun m => tX S c W m) acc σ H (fun out H1 => Q (.str out) H1)
  | [], acc, H, ha, ⟨F, e, r, k⟩ => k (.str acc) F H r Gr.refl (.str ha)
  | m :: ms, acc, H, ha, ⟨F, e, r, k⟩ => by
    refine ⟨F, e, r, Okx.imp (Okx.bind k) fun d e1 k1 v F1 H1 r1 g1 dv => ?_⟩
    cases dv with
    | str hx =>
      rename_i y
      by_cases hz : (acc ++ y).length ≤ sizeLine
      · simp only [hz, if_true] at k1
        have hz' : acc.length + y.length ≤ sizeLine := by rw [← len_cat]; exact hz
        exact ⟨y, rfl, hz, js_of ms (acc ++ y) H1 (sOk_cat ha hx hz') ⟨F1, e1, r1, Okx.gr k1 g1 fun d' e2 q v' F' H' r' g' dv' => q v' F' H' r' (g1.trans g') dv'⟩⟩
      · simp only [hz, if_false] at k1
        exact k1.elim
    | _ => exact k1.elim
theorem px_js {v1 v2 : Expr} {rest : List Expr} {ms : List (M D)} (h : PJd X (v1 :: v2 :: rest) ms) : PX X (.JoinedStr (v1 :: v2 :: rest) pos) (eJs ms Str.empty) :=
  ⟨fun c W tk => PE.imp (pe_joined (h.pj c W tk)) fun σ H Q q => js_of ms Str.empty H ⟨Nat.zero_le _, by decide +kernel⟩ q⟩
end
end DP
set_option Elab.async false
set_option linter.all false
set_option maxRecDepth 100000
set_option maxHeartbeats 2000000
/-! DP30: chains of two comparisons. -/
namespace DP
open PySem PySem.Spec L2
open PyProof.Rows hiding St

def op2 (f : D → D → Option D) (x y : Op) : M D := fun e => match look e x, look e y with
  | some a, some b => match f a b with
    | some d => .ok d e
    | none => .bad
  | _, _ => .bad
def eChain (f g : D → D → Option D) (ma mb mc : M Op) : M D := fun e => (ma e).bind fun x e => (mb e).bind fun y e => (op2 f x y e).bind fun d e => match d with
  | .bl true => (mc e).bind fun w e => op2 g y w e
  | .bl false => .ok (.bl false) e
  | _ => .bad
section
variable {X : Cx} {a b c : Expr} {pos : Pos}
theorem chain_t {f g : D → D → Option D} {ma mb mc : M Op} {S : Sg} {cx : Bx} {W : WX} {σ : L2.St} {H : Hp} {Q : VK} (h : tX S cx W (eChain f g ma mb mc) σ H Q) : tChain (rD S f) (rD S g) (tO S cx W ma) (tO S cx W mb) (tO S cx W mc) σ H Q := by
  obtain ⟨F, e, r, k⟩ := h
  refine ⟨F, e, r, ?_⟩
  refine Okx.imp (Okx.bind k) fun x e1 k1 v F1 H1 r1 g1 o1 => ⟨F1, e1, r1, Okx.gr (Okx.bind k1) g1 fun y e2 k2 w F2 H2 r2 g2 o2 => ?_⟩
  obtain ⟨a', b', d, da, db, e3, q⟩ := op_end r2 (o1.mono g2.1) o2 (Okx.bind k2)
  refine ⟨F2, a', b', d, r2.fh, da, db, e3, fun u F3 H3 x3 du => ?_⟩
  have r3 := r2.ext x3
  have g3 := (g1.trans g2).trans (r2.gr x3)
  match d, du, q with
  | .bl true, du, q =>
    cases du
    refine ⟨true, rfl, F3, e2, r3, Okx.gr (Okx.bind q) g3 fun z e4 k4 t F4 H4 r4 g4 o4 => ?_⟩
    obtain ⟨a2, b2, d2, da2, db2, e5, q2⟩ := op_end r4 (o2.mono (x3.ff.trans g4.1)) o4 k4
    exact ⟨F4, a2, b2, d2, r4.fh, da2, db2, e5, fun v' F' H' x' dv => q2 v' F' H' (r4.ext x') ((g3.trans g4).trans (r4.gr x')) dv⟩
  | .bl false, du, q =>
    cases du
    exact ⟨false, rfl, q _ F3 H3 r3 g3 (.bl false)⟩
theorem px_chain {op op' : CmpOp} {f g : D → D → Option D} {ma mb mc : M Op} (ho : OpR X (compareOp op) (rD (Sx X) f)) (ho' : OpR X (compareOp op') (rD (Sx X) g)) (ha : PY X a ma) (hb : PY X b mb) (hc : PY X c mc)
    (hm : lastMarks [op, op'] [b, c] = false := by with_unfolding_all rfl) : PX X (.Compare a [op, op'] [b, c] pos) (eChain f g ma mb mc) := by
  exact ⟨fun cx W tk => PE.imp (pe_chain ho ho' (ha.run cx W tk) (hb.run cx W tk) (hc.run cx W tk) hm) fun σ H Q h => chain_t h⟩
theorem pb_chain {op op' : CmpOp} {f g : D → D → Option D} {ma mb mc : M Op} (ho : OpR X (compareOp op) (rD (Sx X) f)) (ho' : OpR X (compareOp op') (rD (Sx X) g)) (ha : PY X a ma) (hb : PY X b mb) (hc : PY X c mc)
    (hm : lastMarks [op, op'] [b, c] = false := by with_unfolding_all rfl) : PB X (.Compare a [op, op'] [b, c] pos) (bE (eChain f g ma mb mc)) := by
  refine ⟨fun cx W tk => PT.imp (pt_chain ho ho' (ha.run cx W tk) (hb.run cx W tk) (hc.run cx W tk) hm) fun σ H Q ⟨F, e, r, k⟩ => chain_t ⟨F, e, r, ?_⟩⟩
  refine Okx.imp (Okx.bind k) fun d e1 k1 v F1 H1 r1 g1 dv => ?_
  cases dv with
  | bl b => exact ⟨b, rfl, k1 F1 H1 r1 g1⟩
  | _ => exact k1.elim
end
end DP
set_option Elab.async false
set_option linter.all false
set_option maxRecDepth 100000
set_option maxHeartbeats 2000000
/-! DP31: sorted, of ints. -/
namespace DP
open PySem PySem.Spec L2
open PyProof.Rows hiding St

def sortI (ns : List Int) : List Int := ns.mergeSort fun a b => decide (a ≤ b)
theorem sortI_of {ns ms : List Int} (h : ms.Perm ns) (s : ms.Pairwise (· ≤ ·)) : ms = sortI ns := by
  refine List.Perm.eq_of_pairwise (le := fun a b => a ≤ b) (fun a b _ _ h1 h2 => Int.le_antisymm h1 h2) s ?_ (h.trans (List.mergeSort_perm ns _).symm)
  have q := List.pairwise_mergeSort (le := fun (a b : Int) => decide (a ≤ b)) (fun a b c h1 h2 => by
    simp only [decide_eq_true_eq] at h1 h2 ⊢
    omega) (fun a b => by
    simp only [Bool.or_eq_true, decide_eq_true_eq]
    omega) ns
  exact q.imp fun h => of_decide_eq_true h
def sortedD : List D → Option D
  | [.lst ds] => (intsD ds).bind fun ns => if ns.length ≤ sizeLine then some (.lst ((sortI ns).map D.int)) else none
  | _ => none
theorem dN_sorted {X : Cx} : CallR X (.builtin "sorted") (rDsN (Sx X) sortedD) := CallR.imp cr_sortedI fun xs H Q ⟨F, ds, d, fh, da, e, q⟩ => by
  match ds, da, e with
  | [.lst zs], da, e =>
    obtain ⟨v, rfl, h⟩ := paired1 da
    obtain ⟨p, ys, rfl, h1, h2⟩ := seqR (K := X.K) fh h
    have e' : ((intsD zs).bind fun ns => if ns.length ≤ sizeLine then some (D.lst ((sortI ns).map D.int)) else none) = some d := e
    cases z : intsD zs with
    | none => rw [z] at e'; cases e'
    | some ns =>
      rw [z] at e'
      have e' : (if ns.length ≤ sizeLine then some (D.lst ((sortI ns).map D.int)) else none) = some d := e'
      by_cases hl : ns.length ≤ sizeLine
      · rw [if_pos hl] at e'
        cases e'
        rw [h2.intsV z] at h1
        refine ⟨p, ns, rfl, h1, fun ms l hp hs hn => ?_⟩
        rw [sortI_of hp hs]
        refine q l _ hn (same_new hn) ⟨_, upd_same, Dats.ints _, ?_⟩
        rw [List.length_map, sortI, (List.mergeSort_perm ns _).length_eq]
        exact hl
      · rw [if_neg hl] at e'
        cases e'
end DP
set_option Elab.async false
set_option linter.all false
set_option maxRecDepth 100000
set_option maxHeartbeats 2000000
/-! DP32: enumerate and zip of lists. -/
namespace DP
open PySem PySem.Spec L2
open PyProof.Rows hiding St

def enumD (ds : List D) : List D := ds.mapIdx fun i d => .tup [.int ((i : Nat) : Int), d]
def zipD (ds es : List D) : List D := List.zipWith (fun a b => D.tup [a, b]) ds es
def asL : D → Option (List D)
  | .lst ds => some ds
  | .scr ns => some (ns.map D.int)
  | _ => none
theorem two_le : 2 ≤ sizeLine := by rw [sizeLine_eq]; decide
section
variable {S : Sg} {F H : Hp}
theorem asL_ok {v : V} {d : D} {ds : List D} (h : Dat S F v d) (e : asL d = some ds) : ∃ a xs, v = .ref a ∧ SqL S.K F a xs ∧ Dats S F xs ds := by
  cases h with
  | lst h1 h2 h3 =>
    cases e
    exact ⟨_, _, rfl, .inl h1, h3⟩
  | scr h1 h2 =>
    cases e
    exact ⟨_, _, rfl, h1, Dats.ints _⟩
  | _ => cases e
theorem itok_enum {a : Addr} {xs : List V} {ds : List D} (h : SqL S.K F a xs) (hd : Dats S F xs ds) : ItOk S F (Ite S.K a) (enumD ds) := fun F' H' fm fh i => by
  have hs : SqL S.K H' a xs := L2.Same.seq fh (L2.Same.seq fm h)
  unfold enumD
  refine ⟨fun d hi => ?_, fun hi => ⟨xs, hs, by rw [List.length_mapIdx] at hi; rw [hd.length]; exact hi⟩⟩
  rw [List.getElem?_mapIdx, Option.map_eq_some_iff] at hi
  obtain ⟨d0, h0, rfl⟩ := hi
  obtain ⟨v, hv, dv⟩ := hd.get h0
  refine ⟨⟨xs, v, hs, hv⟩, fun x H'' hy => ?_⟩
  obtain ⟨T, y, rfl, hT, rfl, hx⟩ := hy
  have e : y = v := Option.some.inj ((hx _ hs).symm.trans hv)
  subst e
  have x := Ext.new (o := HO.tup [.int ((i : Nat) : Int), y]) fh hT
  exact ⟨_, x, .tup (SqT.of upd_same) two_le (.cons (.int _) (.cons ((dv.mono fm).mono x.ff) .nil))⟩
theorem itok_zip {a b : Addr} {xs ys : List V} {ds es : List D} (h : SqL S.K F a xs) (hd : Dats S F xs ds) (h' : SqL S.K F b ys) (hd' : Dats S F ys es) : ItOk S F (Itz S.K a b) (zipD ds es) := fun F' H' fm fh i => by
  have hs : SqL S.K H' a xs := L2.Same.seq fh (L2.Same.seq fm h)
  have hs' : SqL S.K H' b ys := L2.Same.seq fh (L2.Same.seq fm h')
  unfold zipD
  refine ⟨fun d hi => ?_, fun hi => ⟨xs, ys, hs, hs', by rw [List.length_zipWith] at hi; rw [hd.length, hd'.length]; omega⟩⟩
  rw [List.getElem?_zipWith] at hi
  cases w1 : ds[i]? with
  | none => rw [w1] at hi; cases hi
  | some d1 =>
    cases w2 : es[i]? with
    | none => rw [w1, w2] at hi; cases hi
    | some d2 =>
      rw [w1, w2] at hi
      cases hi
      obtain ⟨v, hv, dv⟩ := hd.get w1
      obtain ⟨u, hu, du⟩ := hd'.get w2
      refine ⟨⟨xs, ys, v, u, hs, hs', hv, hu⟩, fun x H'' hy => ?_⟩
      obtain ⟨T, y, z, rfl, hT, rfl, hx, hz⟩ := hy
      have e : y = v := Option.some.inj ((hx _ hs).symm.trans hv)
      have e2 : z = u := Option.some.inj ((hz _ hs').symm.trans hu)
      subst e e2
      have x := Ext.new (o := HO.tup [y, z]) fh hT
      exact ⟨_, x, .tup (SqT.of upd_same) two_le (.cons ((dv.mono fm).mono x.ff) (.cons ((du.mono fm).mono x.ff) .nil))⟩
end
def iEn (m : M (List Op)) : M (List D) := fun e => (m e).bind fun os e => match os with
  | [.va d] => (match asL d with
    | some ds => .ok (enumD ds) e
    | none => .bad)
  | _ => .bad
def iZp (m : M (List Op)) : M (List D) := fun e => (m e).bind fun os e => match os with
  | [.va d, .va d'] => (match asL d, asL d' with
    | some ds, some es => .ok (zipD ds es) e
    | _, _ => .bad)
  | _ => .bad
section
variable {X : Cx} {a b : Expr} {p pos tpos : Pos} {elts : List Expr} {kk : Nat}
theorem pi_en {m : M (List Op)} (h : PAr X [a] m) (hm : X.mg "enumerate" = none) (hg : Gl X "enumerate" := by rfl) (hs : starEach [a] X.env = [(false, eval a X.env)] := by rfl) : PIt X (.Tuple elts kk tpos) (.Call (.Name "enumerate" p) [a] [] pos) (iEn m) := by
  refine ⟨fun c W tk => PI.imp (pi_enum hg hm (h.run c W tk) hs) fun σ H Q ⟨F, e, r, k⟩ => ⟨F, e, r, ?_⟩⟩
  refine Okx.imp (Okx.bind k) fun os e1 k1 vs F1 H1 r1 g1 o1 => ?_
  match os, o1, k1 with
  | [.va d], .cons h1 .nil, k1 =>
    cases z : asL d with
    | none => simp only [z] at k1; exact k1.elim
    | some ds =>
      simp only [z] at k1
      obtain ⟨ad, xs, rfl, q1, q2⟩ := asL_ok h1 z
      exact ⟨ad, xs, rfl, L2.Same.seq r1.fh q1, k1 _ F1 H1 r1 g1 (itok_enum q1 q2)⟩
theorem pi_zp {m : M (List Op)} (h : PAr X [a, b] m) (hm : X.mg "zip" = none) (hg : Gl X "zip" := by rfl) (hs : starEach [a, b] X.env = (false, eval a X.env) :: starEach [b] X.env := by rfl) (hpl : (backTo pos (starEach [b] X.env)).any (·.1) = false := by rfl) : PIt X (.Tuple elts kk tpos) (.Call (.Name "zip" p) [a, b] [] pos) (iZp m) := by
  refine ⟨fun c W tk => PI.imp (pi_zip hg hm (h.run c W tk) hs hpl) fun σ H Q ⟨F, e, r, k⟩ => ⟨F, e, r, ?_⟩⟩
  refine Okx.imp (Okx.bind k) fun os e1 k1 vs F1 H1 r1 g1 o1 => ?_
  match os, o1, k1 with
  | [.va d, .va d'], .cons h1 (.cons h2 .nil), k1 =>
    cases z : asL d with
    | none => simp only [z] at k1; exact k1.elim
    | some ds =>
      cases z2 : asL d' with
      | none => simp only [z, z2] at k1; exact k1.elim
      | some es =>
        simp only [z, z2] at k1
        obtain ⟨ad, xs, rfl, q1, q2⟩ := asL_ok h1 z
        obtain ⟨bd, ys, rfl, q3, q4⟩ := asL_ok h2 z2
        exact ⟨ad, bd, xs, ys, rfl, L2.Same.seq r1.fh q1, L2.Same.seq r1.fh q3, k1 _ F1 H1 r1 g1 (itok_zip q1 q2 q3 q4)⟩
end
end DP
set_option Elab.async false
set_option linter.all false
set_option maxRecDepth 100000
set_option maxHeartbeats 2000000
/-! DP33: while, by fuel. -/
namespace DP
open PySem PySem.Spec L2
open PyProof.Rows hiding St

def whL (t : M Bool) (mb : M Fl) : Nat → M Fl
  | 0 => fun _ => .bad
  | n + 1 => fun e => (t e).bind fun b e => if b = true then (mb e).bind fun fl e => (match fl with
      | .nx => whL t mb n e
      | .ct => whL t mb n e
      | .bk => .ok .nx e
      | .rt d => .ok (.rt d) e) else .ok .nx e
section
variable {X : Cx} {a : Expr} {body : List Stmt} {pos : Pos}
theorem pd_while (n : Nat) {t : M Bool} {mb : M Fl} (ht : PB X a t) (hb : PSds X body mb) : PSd X (.While a body [] pos) (whL t mb n) := by
  refine ⟨fun c W tk pw => PS.imp (ps_while pw (ht.run c W tk) (hb.run c W tk pw)) fun G σ H ⟨F, e, r, k⟩ => ?_⟩
  refine ⟨fun m σ H => ∃ F2 e2, Rel (Sx X) c F2 H σ e2 ∧ Gr c F F2 ∧ Okx (Sx X) c W F2 (whL t mb m e2) fun fl e' => SPost (Sx X) c F2 G fl e', ⟨n, F, e, r, Gr.refl, k⟩, fun m σ H hW => ?_⟩
  obtain ⟨F2, e2, r2, g2, k2⟩ := hW
  cases m with
  | zero => exact k2.elim
  | succ m =>
    refine ⟨F2, e2, r2, Okx.imp (Okx.bind k2) fun b e3 k3 F3 H3 r3 g3 => ?_⟩
    cases b with
    | false =>
      have k4 : SPost (Sx X) c F2 G .nx e3 := k3
      exact k4 σ F3 H3 r3 g3
    | true =>
      refine ⟨fun σ' H' => ∃ F2 e2, Rel (Sx X) c F2 H' σ' e2 ∧ Gr c F F2 ∧ Okx (Sx X) c W F2 (whL t mb m e2) fun fl e' => SPost (Sx X) c F2 G fl e', fun σ' H' hN => ⟨m, Nat.lt_succ_self m, hN⟩, F3, e3, r3, ?_⟩
      have k5 := Okx.bind (show Okx (Sx X) c W F2 ((mb e3).bind fun fl e => (match fl with
        | .nx => whL t mb m e
        | .ct => whL t mb m e
        | .bk => .ok .nx e
        | .rt d => .ok (.rt d) e)) (fun fl e' => SPost (Sx X) c F2 G fl e') from k3)
      refine Okx.gr k5 g3 fun fl e4 q => ?_
      have go : ∀ {σ' F' H'}, Rel (Sx X) c F' H' σ' e4 → Gr c F3 F' → Okx (Sx X) c W F2 (whL t mb m e4) (fun fl e' => SPost (Sx X) c F2 G fl e') →
          ∃ F2 e2, Rel (Sx X) c F2 H' σ' e2 ∧ Gr c F F2 ∧ Okx (Sx X) c W F2 (whL t mb m e2) fun fl e' => SPost (Sx X) c F2 G fl e' := fun {σ' F' H'} r' g' q =>
        ⟨F', e4, r', g2.trans (g3.trans g'), Okx.gr q (g3.trans g') fun fl e' w => w.gr (g3.trans g')⟩
      cases fl with
      | nx => exact fun σ' F' H' r' g' => go r' g' q
      | ct => exact fun σ' F' H' r' g' => go r' g' q
      | bk =>
        have q' : SPost (Sx X) c F2 G .nx e4 := q
        exact fun σ' F' H' r' g' => q' σ' F' H' r' (g3.trans g')
      | rt d =>
        have q' : SPost (Sx X) c F2 G (.rt d) e4 := q
        exact fun v σ' F' H' r' g' dv => q' v σ' F' H' r' (g3.trans g') dv
end
end DP
set_option Elab.async false
set_option linter.all false
set_option maxRecDepth 100000
set_option maxHeartbeats 2000000
/-! DP34: x += e, x -= e of ints and texts. -/
namespace DP
open PySem PySem.Spec L2
open PyProof.Rows hiding St

def sAug (i : Nat) (f : D → D → Option D) (m : M D) : M Fl := fun e => match e[i]? with
  | some (.fz a) => (m e).bind fun d e1 => (match f a d with
    | some z => if free e1 i = true then .ok .nx (e1.set i (.fz z)) else .bad
    | none => .bad)
  | _ => .bad
section
variable {X : Cx} {a : Expr} {pos pos' : Pos}
def iaddD : D → D → Option D := orD addI addS
theorem d_iaddS : OpR X (inplaceOp .Add) (rD (Sx X) addS) := OpR.imp iop_add_str fun x y H Q ⟨F, a, b, d, fh, da, db, e, q⟩ => by
  match a, b, da, db, e with
  | .str s, .str t, da, db, e =>
    have e' : (if s.length + t.length ≤ sizeLine then some (D.str (s ++ t)) else none) = some d := e
    by_cases hz : s.length + t.length ≤ sizeLine
    · rw [if_pos hz] at e'
      cases e'
      obtain ⟨rfl, h1⟩ := datR_str da
      obtain ⟨rfl, h2⟩ := datR_str db
      exact ⟨s, t, rfl, rfl, hz, q _ F H (Ext.refl fh) (.str (sOk_cat h1 h2 hz))⟩
    · rw [if_neg hz] at e'
      cases e'
theorem d_iadd : OpR X (inplaceOp .Add) (rD (Sx X) iaddD) := OpR.orD (OpR.imp iop_add (rD_int0 fun _ _ _ => .int _)) d_iaddS
theorem d_isub : OpR X (inplaceOp .Sub) (rD (Sx X) subD) := OpR.imp iop_sub (rD_int0 fun _ _ _ => .int _)
theorem pd_aug (i : Nat) {x : Str} {op : Operator} {f : D → D → Option D} {m : M D} (hN : X.N.Nodup) (ho : OpR X (inplaceOp op) (rD (Sx X) f)) (h : PX X a m) (hi : X.N[i]? = some x := by rfl) (hx : Loc X.env.scope x := by first | exact Or.inl rfl | exact Or.inr rfl)
    (hf : X.fn x = true ∨ X.env.scope.names.lookup x = some .local := by first | exact .inl rfl | exact .inr rfl) : PSd X (.AugAssign (.Name x pos') op a pos) (sAug i f m) := by
  refine ⟨fun c W tk pw => PS.imp (ps_aug (i := i) (ti := rD (Sx X) f) hN hi hx (h.run c W tk) ho hf) fun G σ H ⟨F, e, r, k⟩ => ?_⟩
  unfold sAug at k
  cases z : e[i]? with
  | none => simp only [z] at k; exact k.elim
  | some s =>
    simp only [z] at k
    match s, z, k with
    | .fz b, z, k =>
      obtain ⟨v, h1, h2⟩ := r.fz z
      refine ⟨v, h1, F, e, r, Okx.imp (Okx.bind k) fun d e1 k1 u F1 H1 r1 g1 du => ?_⟩
      cases w : f b d with
      | none => simp only [w] at k1; exact k1.elim
      | some y =>
        simp only [w] at k1
        by_cases hf : free e1 i = true
        · rw [if_pos hf] at k1
          refine ⟨F1, b, d, y, r1.fh, .inl (h2.mono g1.1), .inl du, w, fun t F2 H2 x2 dt => ?_⟩
          exact k1 _ F2 H2 ((r1.ext x2).setFz dt hf) (g1.trans (r1.gr x2))
        · rw [if_neg hf] at k1
          exact k1.elim
end
end DP
set_option Elab.async false
set_option linter.all false
set_option maxRecDepth 100000
set_option maxHeartbeats 2000000
/-! DP35: a def that calls itself through s other defs. -/
namespace DP
open PySem PySem.Spec L2
open PyProof.Rows hiding St

theorem DefOk.lv {P : Program} {w : World} {K : PySem.W.Frag} {mg : Str → Option Value} {base : Heap} {x : Str} {pm : List Bool} {den : List D → DR} {j k : Nat} (G : DefOk P w K mg base j x pm den) (h : j = k) : DefOk P w K mg base k x pm den := h ▸ G
/-- level k + 1 + n (s + 1): behind the n-th turn; the body may call the turn before at level j, and defs around it up to level j + s -/
theorem defOk_recS {P : Program} {w : World} {K : PySem.W.Frag} {mg : Str → Option Value} {base : Heap} {x : Str} {st : Stmt} {N ps : List Str} {pm : List Bool} {ev : (List D → DR) → M Fl} (s k : Nat) (T : TopFn K mg x st) (Sc : FnScope N ps (defScope st)) (hp : ps.length = pm.length) (hN : pm.length ≤ N.length)
    (hb : ∀ (kV doc pm : Value) (an : Option Addr) (cdv ct : Value) (us : List Value), us.length = ps.length → bindArgs (PySem.W.fnOf x x (defArgs st) (defBody st) (defScope st) .none kV doc pm an cdv ct) ⟨us, []⟩ = pure (ps.zip us))
    (body : ∀ (j : Nat) (den : List D → DR), k ≤ j → DefOk P w K mg base j x pm den → ∀ (f : Addr) (cdv : Value) (A : Around) (outer : List Env) (s' : Shared) (H : Hp) (E : XK), Room (j + s) (A.deeper (envOfC x (defScope st) s'.heap.objs.size f cdv)) →
      PSds (cxOf (L2.CX P w) P w K mg base N x (defScope st) f cdv A outer s' H E) (defBody st) (ev den)) : ∀ n : Nat, DefOk P w K mg base (k + 1 + n * (s + 1)) x pm (recD pm N.length ev n)
  | 0 => (defOk_mk (k := k) T Sc hp hN hb fun _ _ _ _ _ _ _ _ => pds_bad).lv (by omega)
  | n + 1 => by
    have ih := defOk_recS s k T Sc hp hN hb body n
    have g := defOk_mk (k := k + 1 + n * (s + 1) + s) T Sc hp hN hb fun f cdv A outer s' H E hr => body (k + 1 + n * (s + 1)) _ (by omega) ih f cdv A outer s' H E hr
    exact g.lv (by rw [Nat.succ_mul]; omega)
end DP
set_option Elab.async false
set_option linter.all false
set_option maxRecDepth 100000
set_option maxHeartbeats 2000000
/-! DP36: a field of an instance. -/
namespace DP
open PySem PySem.Spec L2
open PyProof.Rows hiding St

theorem lookup_dats {S : Sg} {F : Hp} {f : Str} {z : D} : ∀ {kv : List (Str × V)} {kd : List (Str × D)}, kv.map (·.1) = kd.map (·.1) → Dats S F (kv.map (·.2)) (kd.map (·.2)) → kd.lookup f = some z → ∃ v, kv.lookup f = some v ∧ Dat S F v z
  | [], [], _, _, h => by cases h
  | (k, v) :: kv, (k', d) :: kd, e, dd, h => by
    have e1 : k = k' := (List.cons.inj e).1
    have e2 : kv.map (·.1) = kd.map (·.1) := (List.cons.inj e).2
    subst e1
    cases dd with
    | cons h1 h2 =>
      unfold List.lookup at h ⊢
      cases q : (f == k) with
      | true =>
        rw [q] at h
        have e : d = z := Option.some.inj h
        subst e
        exact ⟨v, rfl, h1⟩
      | false =>
        rw [q] at h
        exact lookup_dats e2 h2 h
def fldO (ok : Str → Bool) (f : Str) : D → Option D
  | .obj n fs => if ok n = true then fs.lookup f else none
  | _ => none
def eFldO (ok : Str → Bool) (f : Str) (mo : M Op) : M D := fun e => (mo e).bind fun o e => match look e o with
  | some d => (match fldO ok f d with
    | some z => .ok z e
    | none => .bad)
  | none => .bad
section
variable {X : Cx} {a : Expr} {pos : Pos}
theorem px_fldO {ok : Str → Bool} {f : Str} {mo : M Op} (hC : ∀ n C, ok n = true → (Sx X).T n = some C → Cls X.K C ∧ NoAttr X.K C f) (h : PY X a mo) (hb : attributeBase a f X.env (eval a X.env) = eval a X.env := by rfl) : PX X (.Attribute a f pos) (eFldO ok f mo) := by
  refine ⟨fun c W tk => PE.imp (pe_fld (h.run c W tk) hb) fun σ H Q ⟨F, e, r, k⟩ => ⟨F, e, r, ?_⟩⟩
  refine Okx.imp (Okx.bind k) fun o e1 k1 v F1 H1 r1 g1 o1 => ?_
  cases z : look e1 o with
  | none => simp only [z] at k1; exact k1.elim
  | some d =>
    simp only [z] at k1
    have dr := look_ok r1 o1 z
    cases d with
    | obj n fs =>
      by_cases hk : ok n = true
      · have e2 : fldO ok f (.obj n fs) = fs.lookup f := if_pos hk
        rw [e2] at k1
        cases w : fs.lookup f with
        | none => rw [w] at k1; exact k1.elim
        | some y =>
          rw [w] at k1
          rcases dr with dr | ⟨ad, rfl, C, dx, kv, h1, h2, h3, h4⟩
          · cases dr with
            | obj h1 h2 h3 h4 =>
              obtain ⟨u, q1, q2⟩ := lookup_dats h3 h4 w
              obtain ⟨c1, c2⟩ := hC n _ hk h1
              exact ⟨_, _, _, _, u, rfl, r1.fh _ _ h2, c1, c2, q1, k1 u F1 H1 r1 g1 q2⟩
          · obtain ⟨u, q1, q2⟩ := lookup_dats h3 h4 w
            obtain ⟨c1, c2⟩ := hC n _ hk h2
            exact ⟨_, _, _, _, u, rfl, h1, c1, c2, q1, k1 u F1 H1 r1 g1 q2⟩
      · have e2 : fldO ok f (.obj n fs) = none := if_neg hk
        rw [e2] at k1
        exact k1.elim
    | _ => exact k1.elim
end
end DP
set_option Elab.async false
set_option linter.all false
set_option maxRecDepth 100000
set_option maxHeartbeats 2000000
/-! DP37: try with clauses that may have a name: what is caught becomes plain data of the suite. -/
namespace DP
open PySem PySem.Spec L2
open PyProof.Rows hiding St

section
variable {X : Cx} {pins : List (Addr × Obj)} {σ : L2.St} {H : Hp} {s : Shared} {a C : Addr} {d : Option Addr}
theorem exf_fits {P : Program} {w : World} {h : Heap} {o : Obj} {vs : Array Value} (ho : h.get? a = some o) (hz : Zc (.ref C) d o) (hd : o.data = .fields vs) : ObjOk P w (upd H a (exf a C d)) h a (exf a C d) :=
  ⟨⟨o, vs, ho, hz.1, hz.2, hd⟩, ⟨o, ho⟩, fun _ _ ⟨o', vs', q1, q2, q3, q4⟩ k => ⟨o', vs', k _ q1, q2, q3, q4⟩⟩
/-- the suite begins: the caught object is tracked from now on -/
theorem suite_in (I : Inv X pins σ H s) {o : Obj} {vs : Array Value} (ho : s.heap.get? a = some o) (hz : Zc (.ref C) d o) (hd : o.data = .fields vs) (na : H a = none) (nL : a ≠ X.env.locals)
    (nB : ∀ u, X.s_0.heap.get? a = some u → a ∉ X.ex → False) (nP : ∀ p ∈ X.pn ++ pins, p.1 ≠ a) : Inv (X.suite a (X.pn ++ pins)) [] σ (upd H a (exf a C d)) s where
  ok := I.ok.suite _ _
  os := I.os
  bare := I.bare
  base := by
    refine ⟨I.base.keep, I.base.slot, fun b u e n hx => ?_, I.base.there, fun b xs e => ?_, fun b u v e => ?_, fun b ps e => ?_⟩
    · by_cases q : b = a
      · rw [q] at e hx
        exact (nB u e hx).elim
      · rw [upd_ne q]
        exact I.base.free b u e n hx
    · have z := I.base.tups b xs e
      rw [upd_ne (ne_of_none z na)]
      exact z
    · have z := I.base.frzs b u v e
      rw [upd_ne (ne_of_none z na)]
      exact z
    · obtain ⟨m, z⟩ := I.base.tbls b ps e
      exact ⟨m, by rw [upd_ne (ne_of_none z na)]; exact z⟩
  loc := I.loc
  cell := I.cell
  free := by
    rw [upd_ne (Ne.symm nL)]
    exact I.free
  freeC := fun x c e => by
    have nc : c ≠ a := fun q => by
      obtain ⟨v, u, e1, e2⟩ := I.cell x c e
      rw [q, ho] at e1
      cases e1
      rw [hd] at e2
      cases e2
    rw [upd_ne nc]
    exact I.freeC x c e
  pin := fun p hp => by
    have hp' : p ∈ X.pn ++ pins := by
      rw [List.append_nil] at hp
      exact hp
    obtain ⟨e, n, r⟩ := I.pin p hp'
    exact ⟨e, by rw [upd_ne (nP p hp')]; exact n, r⟩
  hok := fun b u e => by
    by_cases q : b = a
    · subst q
      rw [upd_same] at e
      cases e
      exact exf_fits ho hz hd
    · rw [upd_ne q] at e
      refine (I.hok b u e).stay (fun _ _ _ z => z) (fun c z => ?_) fun c xs z => ?_
      · rw [upd_ne (ne_of_none z na)]
        exact z
      · rw [upd_ne (ne_of_none z na)]
        exact z
  len := I.len
theorem suite_plain (I : Inv X pins σ H s) (a : Addr) : Inv (X.suite a (X.pn ++ pins)) [] σ H s :=
  ⟨I.ok.suite _ _, I.os, I.bare, I.base, I.loc, I.cell, I.free, I.freeC, fun p hp => I.pin p (List.append_nil (X.pn ++ pins) ▸ hp), I.hok, I.len⟩
theorem suite_out {pn' : List (Addr × Obj)} (I : Inv (X.suite a (X.pn ++ pins)) pn' σ H s) (ok : X.Ok) : Inv X pins σ H s :=
  ⟨ok, I.os, I.bare, I.base, I.loc, I.cell, I.free, I.freeC, fun p hp => I.pin p (List.mem_append_left _ hp), I.hok, I.len⟩
end

/-- how a named clause's suite ends: its slot is emptied -/
def offN (i : Option Nat) (D : Ends) : Ends := match i with
  | none => D
  | some i => { nx := fun σ H => D.nx (σ.set i none) H, rt := D.rt, bk := fun σ H => D.bk (σ.set i none) H, ct := fun σ H => D.ct (σ.set i none) H }
def onN (i : Option Nat) (a : Addr) (σ : L2.St) : L2.St := match i with
  | none => σ
  | some i => σ.set i (some (.ref a))
abbrev Cl := Value × Option Nat × TS
def wCl (K : PySem.W.Frag) (Wout : WX) (D : Ends) : List Cl → WX
  | [] => Wout
  | (c, i, t) :: r => fun cls d σ H => ∃ (C : Addr) (b : Bool), cls = .ref C ∧ PySem.W.exmOne K cls c = some b ∧ (b = true → ∀ a, H a = none → t (offN i D) (onN i a σ) (upd H a (exf a C d))) ∧ (b = false → wCl K Wout D r cls d σ H)
inductive ClsOk (X : Cx) : List ExceptHandler → List Cl → Prop
  | nil : ClsOk X [] []
  | cons {x : Str} {n : Option Str} {i : Option Nat} {c : Value} {t : TS} {b₀ : Stmt} {suite : List Stmt} {np pos' : Pos} {hds : List ExceptHandler} {l : List Cl} (hc : Names X x c)
      (hn : match n, i with
        | none, none => True
        | some n, some i => X.N[i]? = some n ∧ X.env.kindOf n = some .local
        | _, _ => False)
      (hsu : ∀ (a : Addr) (pn : List (Addr × Obj)), PSs (X.suite a pn) (b₀ :: suite) t) (r : ClsOk X hds l) :
      ClsOk X (.ExceptHandler (some (.Name x np)) n (b₀ :: suite) pos' :: hds) ((c, i, t) :: l)
theorem after_suite {X : Cx} {pins : List (Addr × Obj)} {a : Addr} {D D' : Ends} {f : Flow} {s : Shared} (ok : X.Ok) (h : SP (X.suite a (X.pn ++ pins)) [] D f s) (hD : D = D') : SP X pins D' f s := by
  subst hD
  cases f with
  | next => obtain ⟨σ6, H6, S6, q⟩ := h; exact ⟨σ6, H6, suite_out S6 ok, q⟩
  | brk => obtain ⟨σ6, H6, S6, q⟩ := h; exact ⟨σ6, H6, suite_out S6 ok, q⟩
  | cont => obtain ⟨σ6, H6, S6, q⟩ := h; exact ⟨σ6, H6, suite_out S6 ok, q⟩
  | ret u => obtain ⟨v, σ6, H6, S6, r, q⟩ := h; exact ⟨v, σ6, H6, suite_out S6 ok, r, q⟩
theorem after_named {X : Cx} {pins : List (Addr × Obj)} {a : Addr} {n : Str} {i : Nat} {pos : Pos} {D : Ends} {f : Flow} {s : Shared} (ok : X.Ok) (hN : X.N.Nodup) (hi : X.N[i]? = some n) (hl : X.env.kindOf n = some .local) (h : SP (X.suite a (X.pn ++ pins)) [] (offN (some i) D) f s) :
    wpAny (model X.prog X.w) X.A (do bindName X.env n .none; unbindBehindTheSuite X.env n pos) (fun _ s3 => SP X pins D f s3) X.xe s := by
  cases f with
  | next => obtain ⟨σ6, H6, S6, q⟩ := h; exact gone_ok (suite_out S6 ok) hN hi hl fun _ J => ⟨_, _, J, q⟩
  | brk => obtain ⟨σ6, H6, S6, q⟩ := h; exact gone_ok (suite_out S6 ok) hN hi hl fun _ J => ⟨_, _, J, q⟩
  | cont => obtain ⟨σ6, H6, S6, q⟩ := h; exact gone_ok (suite_out S6 ok) hN hi hl fun _ J => ⟨_, _, J, q⟩
  | ret u => obtain ⟨v, σ6, H6, S6, r, q⟩ := h; exact gone_ok (suite_out S6 ok) hN hi hl fun _ J => ⟨v, _, _, J, r, q⟩
section
variable {X : Cx} {body : List Stmt} {h₀ : ExceptHandler} {hds : List ExceptHandler} {l : List Cl} {pos : Pos} {tb : WX → TS} {Wout : WX}
/-- the clauses, one after the other, of an error that has landed -/
theorem clauses_run {pins : List (Addr × Obj)} {D : Ends} {a : Addr} {B : Heap} {sI : Shared} {σ : L2.St} {H : Hp} {cls : Value} {d : Option Addr} (ok : X.Ok) (hs : X.stack = X.env :: X.outer) (hf : X.env.frame = some X.env.locals) (hN : X.N.Nodup) (tk : Takes X Wout)
    (J : Inv X pins σ H sI) (nb : ∀ b o, sI.heap.get? b = some o → b ∉ frs X.stack → B.get? b = some o) (na : H a = none) (hk : ClsOk X hds l) : ∀ {s3 : Shared}, wCl X.K Wout D l cls d σ H → s3.os = sI.os → AllBare s3.gens → sI.heap.UpToSlots s3.heap →
      HandSPX.FlyingZ B (X.env :: X.outer) a (Zc cls d) s3.heap → wpAny (model X.prog X.w) X.A (handleBy (.ref a) X.env hds) (SP X pins D) X.xe s3 := by
  induction hk with
  | nil =>
    intro s3 w os ag up fl
    obtain ⟨st, -, -, oe, vs, T, oT, ts, he, -, hd, h1, -⟩ := id fl
    refine wpAny_handleBy_nil ?_
    unfold PySem.passOn
    refine wpAny_bind (wpAny_field he hd h1 ?_)
    rw [if_neg (by simp)]
    have leave : wpAny (model X.prog X.w) X.A (setFlight (.ref a) X.env.frame) (fun _ s4 => wpAny (model X.prog X.w) X.A (throw (.ref a) : Sem Flow) (SP X pins D) X.xe s4) X.xe s3 := by
      rw [hf]
      refine HandSPX.setFlight_upZ fl fun h4 held up4 => wpAny_throw (tk _ _ ⟨a, B, sI, pins, σ, H, cls, d, rfl, J, nb, up.trans up4, .inr (.inr ?_), na, os, ag, w⟩)
      rw [hs]
      exact held
    first
      | exact wpAny_bind leave
      | exact wpAny_bind (wpAny_pure (wpAny_bind leave))
  | @cons x n i c t b₀ suite np pos' hds2 l2 hc hn hsu r ih =>
    intro s3 w os ag up fl
    obtain ⟨C, b, rfl, hb, hyes, hno⟩ := w
    obtain ⟨oe, vs, he, hz, hd⟩ := fl.there
    have inFr : a ∉ frs (X.env :: X.outer) := fun hm => by
      obtain ⟨_, u, e, nd⟩ := fl.2.2.1.mem hm
      rw [he] at e
      cases e
      exact nd _ hd
    have gone : ∀ u, sI.heap.get? a = some u → False := fun u e => by
      have z := nb a u e (by rw [hs]; exact inFr)
      rw [fl.2.1] at z
      cases z
    have nL : a ≠ X.env.locals := fun z => inFr (List.mem_filterMap.mpr ⟨X.env, List.mem_cons_self, by rw [hf, z]⟩)
    have nB : ∀ u, X.s_0.heap.get? a = some u → a ∉ X.ex → False := fun u e hx => by
      obtain ⟨u', e'⟩ := J.base.there a u e hx
      exact gone u' e'
    have nP : ∀ p ∈ X.pn ++ pins, p.1 ≠ a := fun p hp q => gone p.2 (q ▸ (J.pin p hp).1)
    have J3 : Inv X pins σ H s3 := J.landed nb fl.1 up os ag
    have S3 := suite_plain J3 a
    refine wpAny_handleBy_cons (codeAny_handlers_test ?_) (by intro q; cases q)
    have LM := PySem.W.exm_one (M := model X.prog X.w) J3.kIn (cls := .ref C) (e := a) (fun A Q E s k q => wpAny_typeOf_ref (k _ _ he) (by rw [hz.1]; exact q)) hb
    have test : ∀ {Q : Value → Shared → Prop} {E : Value → Shared → Prop}, Q c s3 → wpAny (model X.prog X.w) (X.A.mark (some (.ref a))) (eval (.Name x np) X.env) Q E s3 := fun {Q E} q => by
      obtain ⟨g1, g2, g3 | ⟨g3, g4, g5⟩⟩ := hc
      · exact ld_glob (X := X.suite a (X.pn ++ pins)) S3 g1 g3 q g2
      · exact ld_blt (X := X.suite a (X.pn ++ pins)) S3 g1 g3 g4 q g5 g2
    refine test (LM.here ?_)
    cases b with
    | false => exact ih (hno rfl) os ag up fl
    | true =>
      have hy := hyes rfl a na
      cases n with
      | none =>
        cases i with
        | some i => exact hn.elim
        | none =>
          refine codeAny_handlers_suite (HandSPX.lands_againZ fl fun h4 fl4 up4 => ?_)
          obtain ⟨oe4, vs4, he4, hz4, hd4⟩ := fl4.there
          have S4 := suite_in (J.landed (s' := { s3 with heap := h4 }) nb fl4.1 (up.trans up4) os ag) he4 hz4 hd4 na nL nB nP
          exact wpAny_mono ((hsu a (X.pn ++ pins)).run [] _ _ _ _ S4 hy) (fun f s6 q => after_suite ok q rfl) fun _ _ z => False.elim z
      | some n =>
        cases i with
        | none => exact hn.elim
        | some i =>
          refine codeAny_handlers_suite_as (HandSPX.lands_againZ fl fun h4 fl4 up4 => ?_)
          obtain ⟨oe4, vs4, he4, hz4, hd4⟩ := fl4.there
          have S4 := suite_in (J.landed (s' := { s3 with heap := h4 }) nb fl4.1 (up.trans up4) os ag) he4 hz4 hd4 na nL nB nP
          refine store_ok (X := X.suite a (X.pn ++ pins)) (v := .ref a) S4 hN hn.1 (.inl hn.2) rfl (fun s5 S5 => ?_) (.inr hn.2)
          exact wpAny_mono ((hsu a (X.pn ++ pins)).run [] _ _ _ _ S5 hy) (fun f s6 q => after_named ok hN hn.1 hn.2 q) fun _ _ z => False.elim z
theorem ps_try_cl (hs : X.stack = X.env :: X.outer) (hf : X.env.frame = some X.env.locals) (hN : X.N.Nodup) (tk : Takes X Wout)
    (hb : ∀ (W : WX) (pn : List (Addr × Obj)) (xe : Value → Shared → Prop), Takes (X.tr pn xe) W → PassesOwn (model X.prog X.w) X.A X.env xe → PSs (X.tr pn xe) body (tb W)) (hh : ClsOk X (h₀ :: hds) l) :
    PS X (.Try body (h₀ :: hds) [] [] pos) (fun D σ H => tb (wCl X.K Wout D l) D σ H) := by
  refine ⟨fun pins s σ H D I h => wpAny_Try_except ?_⟩
  have ok := I.ok
  have run := (hb (wCl X.K Wout D l) (X.pn ++ pins) (fun e t1 => wpAny (model X.prog X.w) X.A (noteFrame e X.env) (fun _ t2 => wpAny (model X.prog X.w) X.A (setFlight e none) (fun _ t3 =>
    wpAny (model X.prog X.w) X.A (handleBy e X.env (h₀ :: hds)) (SP X pins D) X.xe t3) X.xe t2) X.xe t1) (fun u s' xx => ?_) PassesOwn.looking).run [] s σ H D (I.toTry _) h
  · refine wpAny_mono run (fun f s1 q => ?_) fun _ _ z => z
    cases f with
    | next => obtain ⟨σ', H', J', z⟩ := q; exact wpAny_execs_nil ⟨σ', H', J'.ofTry ok, z⟩
    | brk => obtain ⟨σ', H', J', z⟩ := q; exact ⟨σ', H', J'.ofTry ok, z⟩
    | cont => obtain ⟨σ', H', J', z⟩ := q; exact ⟨σ', H', J'.ofTry ok, z⟩
    | ret u => obtain ⟨v, σ', H', J', r, z⟩ := q; exact ⟨v, σ', H', J'.ofTry ok, r, z⟩
  · obtain ⟨a, B, sI, pins', σ', H', cls, d, rfl, J', nb, up, sky, na, os, ag, w⟩ := xx
    refine Sky.land (env := X.env) (outer := X.outer) Zc.steady (by rw [ok.frames, hs]) hf (by rw [← hs]; exact sky) fun h3 fl up3 => ?_
    exact clauses_run ok hs hf hN tk (J'.ofTry ok) nb na hh w os ag (up.trans up3) fl
end
end DP
set_option Elab.async false
set_option linter.all false
set_option maxRecDepth 100000
set_option maxHeartbeats 2000000
/-! DP38: try .. except X as e, by data. -/
namespace DP
open PySem PySem.Spec L2
open PyProof.Rows hiding St

theorem Rel.setNo {S : Sg} {c : Bx} {F H : Hp} {σ : L2.St} {e : En} {i : Nat} (r : Rel S c F H σ e) : Rel S c F H (σ.set i none) (e.set i .no) := by
  have off : ∀ {j : Nat} {s : Sl}, (e.set i .no)[j]? = some s → s ≠ .no → i ≠ j ∧ e[j]? = some s := fun {j s} q n => by
    by_cases hj : i = j
    · subst hj
      by_cases hl : i < e.length
      · rw [List.getElem?_set_self hl] at q
        exact absurd (Option.some.inj q).symm n
      · rw [List.getElem?_eq_none (by simpa using hl)] at q
        cases q
    · rw [List.getElem?_set_ne hj] at q
      exact ⟨hj, q⟩
  refine ⟨r.bh, r.fh, by simp [r.len], fun {j d} q => ?_, fun {j m d} q => ?_, fun {j k m m' d1 d2 a} q1 q2 p1 p2 => ?_⟩
  · obtain ⟨n, q'⟩ := off q (by intro z; cases z)
    rw [List.getElem?_set_ne n]
    exact r.fz q'
  · obtain ⟨n, q'⟩ := off q (by intro z; cases z)
    rw [List.getElem?_set_ne n]
    exact r.ow q'
  · obtain ⟨n1, q1'⟩ := off q1 (by intro z; cases z)
    obtain ⟨n2, q2'⟩ := off q2 (by intro z; cases z)
    rw [List.getElem?_set_ne n1] at p1
    rw [List.getElem?_set_ne n2] at p2
    exact r.dis q1' q2' p1 p2

abbrev Cld := (Str → Option Bool) × Option Nat × M Fl
/-- a clause's suite -/
def suiteD (i : Option Nat) (m : M Fl) (n : Str) (fs : List (Str × D)) : M Fl := match i with
  | none => fun e => noEx (m e)
  | some i => fun e => if free e i = true then (noEx (m (e.set i (.fz (.exn n fs))))).bind fun fl e' => if free e' i = true then .ok fl (e'.set i .no) else .bad else .bad
def catchN : List Cld → Str → List (Str × D) → M Fl
  | [], n, fs => fun e => .ex n fs e
  | (t, i, m) :: r, n, fs => fun e => match t n with
    | some true => suiteD i m n fs e
    | some false => catchN r n fs e
    | none => .bad
def sTryN (m : M Fl) (hs : List Cld) : M Fl := fun e => match m e with
  | .ok fl e' => .ok fl e'
  | .ex n fs e' => catchN hs n fs e'
  | .bad => .bad
inductive PHn (X : Cx) : List ExceptHandler → List Cld → Prop
  | nil : PHn X [] []
  | bare {x : Str} {t : Str → Option Bool} {m : M Fl} {b₀ : Stmt} {suite : List Stmt} {np pos' : Pos} {hds : List ExceptHandler} {l : List Cld} (hx : HdF X.K X.mg x t) (hsu : ∀ (a : Addr) (pn : List (Addr × Obj)), PSds (X.suite a pn) (b₀ :: suite) m) (r : PHn X hds l)
      (hg : Gl X x := by rfl) (hdb : (x == ("__debug__" : Str)) = false := by decide) :
      PHn X (.ExceptHandler (some (.Name x np)) none (b₀ :: suite) pos' :: hds) ((t, none, m) :: l)
  | named {x n : Str} (i : Nat) {t : Str → Option Bool} {m : M Fl} {b₀ : Stmt} {suite : List Stmt} {np pos' : Pos} {hds : List ExceptHandler} {l : List Cld} (hx : HdF X.K X.mg x t) (hsu : ∀ (a : Addr) (pn : List (Addr × Obj)), PSds (X.suite a pn) (b₀ :: suite) m) (r : PHn X hds l)
      (hi : X.N[i]? = some n := by rfl) (hl : X.env.kindOf n = some .local := by rfl) (hg : Gl X x := by rfl) (hdb : (x == ("__debug__" : Str)) = false := by decide) :
      PHn X (.ExceptHandler (some (.Name x np)) (some n) (b₀ :: suite) pos' :: hds) ((t, some i, m) :: l)
section
variable {X : Cx}
/-- the clauses as the rule wants them: with their classes -/
inductive Joint (X : Cx) (c : Bx) : List Cl → List Cld → Prop
  | nil : Joint X c [] []
  | cons {cv : Value} {i : Option Nat} {t : Str → Option Bool} {m : M Fl} {l : List Cl} {l' : List Cld} (h : ∀ n b C, t n = some b → (Sx X).T n = some C → PySem.W.exmOne X.K (.ref C) cv = some b) (r : Joint X c l l') :
      Joint X c ((cv, i, tS (Sx X) c (fun _ _ _ _ => False) m) :: l) ((t, i, m) :: l')
theorem PHn.both {hds : List ExceptHandler} {l : List Cld} (c : Bx) (h : PHn X hds l) : ∃ l', ClsOk X hds l' ∧ Joint X c l' l := by
  induction h with
  | nil => exact ⟨[], .nil, .nil⟩
  | bare hx hsu r hg hdb ih =>
    obtain ⟨l', h1, h2⟩ := ih
    obtain ⟨cv, q1, q2⟩ := hx
    exact ⟨(.ref cv, none, _) :: l', .cons ⟨hg, hdb, .inl q1⟩ trivial (fun a pn => (hsu a pn).run c _ (DP.takes0 _) PassesOwn.never) h1, .cons q2 h2⟩
  | named i hx hsu r hi hl hg hdb ih =>
    obtain ⟨l', h1, h2⟩ := ih
    obtain ⟨cv, q1, q2⟩ := hx
    exact ⟨(.ref cv, some i, _) :: l', .cons ⟨hg, hdb, .inl q1⟩ ⟨hi, hl⟩ (fun a pn => (hsu a pn).run c _ (DP.takes0 _) PassesOwn.never) h1, .cons q2 h2⟩
theorem wCl_of {c : Bx} {Wout : WX} {D₀ : Ends} {F : Hp} {l : List Cl} {l' : List Cld} (h : Joint X c l l') {n : Str} {fs : List (Str × D)} {e : En} (k : Okx (Sx X) c Wout F (catchN l' n fs e) (fun fl e' => SPost (Sx X) c F D₀ fl e')) :
    ∀ cls dd σ' F' H', Rel (Sx X) c F' H' σ' e → Gr c F F' → ExD (Sx X) F' H' cls dd n fs → wCl X.K Wout D₀ l cls dd σ' H' := by
  induction h with
  | nil => exact k
  | @cons cv i t m l l' ht r ih =>
    intro cls dd σ' F' H' rr g ed
    obtain ⟨C, hT, rfl, rest⟩ := ed
    have k' : Okx (Sx X) c Wout F (match t n with
      | some true => suiteD i m n fs e
      | some false => catchN l' n fs e
      | none => .bad) (fun fl e' => SPost (Sx X) c F D₀ fl e') := k
    cases z : t n with
    | none => rw [z] at k'; exact k'.elim
    | some b =>
      rw [z] at k'
      refine ⟨C, b, rfl, ht n b C z hT, fun hb a ha => ?_, fun hb => ?_⟩
      · subst hb
        have x : Ext F' H' (upd F' a (exf a C dd)) (upd H' a (exf a C dd)) := Ext.new rr.fh ha
        have r2 := rr.ext x
        have g2 := g.trans (rr.gr x)
        have dv : Dat (Sx X) (upd F' a (exf a C dd)) (.ref a) (.exn n fs) := by
          rcases rest with ⟨rfl, rfl⟩ | ⟨dx, f, v, y, rfl, rfl, hx, hd⟩
          · exact .exn0 hT (.inr upd_same)
          · exact .exn1 hT (.inr upd_same) (.inr (x.ff _ _ hx)) (hd.mono x.ff)
        cases i with
        | none =>
          have k2 : Okx (Sx X) c Wout F (noEx (m e)) (fun fl e' => SPost (Sx X) c F D₀ fl e') := k'
          exact ⟨_, e, r2, Okx.gr (Okx.any (m := m e) k2) g2 fun fl e' q => SPost.gr q g2⟩
        | some i =>
          have k2 : Okx (Sx X) c Wout F (if free e i = true then (noEx (m (e.set i (.fz (.exn n fs))))).bind fun fl e' => if free e' i = true then R.ok fl (e'.set i .no) else .bad else .bad) (fun fl e' => SPost (Sx X) c F D₀ fl e') := k'
          by_cases hf : free e i = true
          · rw [if_pos hf] at k2
            refine ⟨_, _, r2.setFz dv hf, Okx.gr (Okx.any (m := m (e.set i (.fz (.exn n fs)))) (Okx.bind k2)) g2 fun fl e' q => ?_⟩
            by_cases hf2 : free e' i = true
            · rw [if_pos hf2] at q
              have q' : SPost (Sx X) c F D₀ fl (e'.set i .no) := q
              cases fl with
              | nx => exact fun σ2 F2 H2 r3 g3 => q' _ F2 H2 r3.setNo (g2.trans g3)
              | bk => exact fun σ2 F2 H2 r3 g3 => q' _ F2 H2 r3.setNo (g2.trans g3)
              | ct => exact fun σ2 F2 H2 r3 g3 => q' _ F2 H2 r3.setNo (g2.trans g3)
              | rt d => exact fun v σ2 F2 H2 r3 g3 dv => q' v _ F2 H2 r3.setNo (g2.trans g3) dv
            · rw [if_neg hf2] at q
              exact q.elim
          · rw [if_neg hf] at k2
            exact k2.elim
      · subst hb
        exact ih k' _ _ _ _ _ rr g ⟨C, hT, rfl, rest⟩
theorem pd_tryN {body : List Stmt} {h₀ : ExceptHandler} {hds : List ExceptHandler} {pos : Pos} {m : M Fl} {l : List Cld} (hN : X.N.Nodup) (hb : ∀ (pn : List (Addr × Obj)) (xe : Value → Shared → Prop), PSds (X.tr pn xe) body m) (hh : PHn X (h₀ :: hds) l)
    (hs : X.stack = X.env :: X.outer := by rfl) (hf : X.env.frame = some X.env.locals := by rfl) : PSd X (.Try body (h₀ :: hds) [] [] pos) (sTryN m l) := by
  refine ⟨fun c W tk pw => ?_⟩
  obtain ⟨l', h1, h2⟩ := hh.both c
  refine PS.imp (ps_try_cl (tb := fun W => tS (Sx X) c W m) hs hf hN tk (fun W pn xe tk pw => (hb pn xe).run c W tk pw) h1) fun G σ H ⟨F, e, r, k⟩ => ⟨F, e, r, ?_⟩
  unfold sTryN at k
  cases z : m e with
  | bad => rw [z] at k; exact k.elim
  | ok fl e' => rw [z] at k; exact k
  | ex n fs e' =>
    rw [z] at k
    exact wCl_of h2 k
end
end DP
set_option Elab.async false
set_option linter.all false
set_option maxRecDepth 100000
set_option maxHeartbeats 2000000
/-! DP39: defs under a condition G on what stands around the call (guards known; an error in hand). -/
namespace DP
open PySem PySem.Spec L2
open PyProof.Rows hiding St

/-- a def's promise where G holds -/
structure FnP (G : Around → Prop) (P : Program) (w : World) (K : PySem.W.Frag) (mg : Str → Option Value) (base : Heap) (k : Nat) (f : Addr) (fd : FuncData) (ps : List Str) (sp : Sp) : Prop where
  len : ∀ vs H Q E, sp vs H Q E → vs.length = ps.length
  run : ∀ (A : Around) (outer : List Env) (s : Shared) (H : Hp) (us : List Value) (vs : List V) (Q : VK) (E : XK), G A → L2H.RoomH k A → Env0 P w K mg base A outer s H → BindsTo s fd ⟨us, []⟩ (ps.zip us) → Vals vs us → sp vs H Q E →
    codeAny (model P w) A (.call (.ref f) ⟨us, []⟩) (CR (L2.CX P w) outer P w H s Q E) s
/-- the context of such a body: cm tells whether no error is in hand -/
abbrev cxG (cm : Bool) (P : Program) (w : World) (K : PySem.W.Frag) (mg : Str → Option Value) (base : Heap) (N : List Str) (qual : Str) (scope : Scope) (f : Addr) (cd : Value) (A : Around) (outer : List Env) (s : Shared) (H : Hp) (E : XK) : Cx :=
  { cxOf (L2.CX P w) P w K mg base N qual scope f cd A outer s H E with calm := cm }
section
variable {G : Around → Prop} {P : Program} {w : World} {K : PySem.W.Frag} {mg : Str → Option Value} {base : Heap} {cm : Bool}
theorem start_G {N ps : List Str} {qual : Str} {scope : Scope} {f : Addr} {cd : Value} {A : Around} {outer : List Env} {s s1 : Shared} {H : Hp} {E : XK} {us : List Value} {vs : List V} (S : FnScope N ps scope) (hd : cm = true → A.handled = none) (e0 : Env0 P w K mg base A outer s H) (hl : vs.length = ps.length) (r : Vals vs us)
    (x : InCallC s s.heap.objs.size (bindL (envOfC qual scope s.heap.objs.size f cd).kindOf (ps.zip us) fun _ => none) (cellsFrom (s.heap.objs.size + 1) scope.names []) (bindC (envOfC qual scope s.heap.objs.size f cd).kindOf (ps.zip us) fun _ => none) s1) :
    Inv (cxG cm P w K mg base N qual scope f cd A outer s H E) [] (L2.start N vs) H s1 := by
  have e1 : Env0 P w K mg base { A with handled := none } outer s H := ⟨e0.frames, e0.mod, e0.bs, e0.bsz, e0.funs, e0.frf, e0.hok, e0.bare⟩
  have I := inv_start (CX := L2.CX P w) (A := { A with handled := none }) (E := E) (cd := cd) (f := f) (qual := qual) S rfl e1 hl r x
  have o := I.ok
  exact ⟨⟨o.mod, o.kind, o.glob, o.blt, o.above, o.inj, o.has, o.cab, fun z => hd z, Around.frames_deeper e0.frames, o.stk, o.exf, o.bs, o.bsz, o.noex, o.exfs, o.funs, o.frf⟩, I.os, I.bare, I.base, I.loc, I.cell, I.free, I.freeC, I.pin, I.hok, I.len⟩
theorem fn_G {k : Nat} {x qual : Str} {st : Stmt} {f : Addr} {fd : FuncData} {N ps : List Str} {sp : Sp} (F : Fun K x qual st f fd) (S : FnScope N ps (defScope st)) (hd : cm = true → ∀ A, G A → A.handled = none) (len : ∀ vs H Q E, sp vs H Q E → vs.length = ps.length)
    (body : ∀ (cdv : Value) (A : Around) (outer : List Env) (s : Shared) (H : Hp) (vs : List V) (Q : VK) (E : XK), G A → L2H.RoomH k (A.deeper (envOfC qual (defScope st) s.heap.objs.size f cdv)) → sp vs H Q E →
      ∃ t, PSs (cxG cm P w K mg base N qual (defScope st) f cdv A outer s H E) (defBody st) t ∧ t { nx := fun _ H' => Q .non H', rt := Q } (L2.start N vs) H) : FnP G P w K mg base (k + 1) f fd ps sp := by
  obtain ⟨oc, od, kV, doc, pm, an, cdv, ct, osl, rfl, lk, hcd⟩ := F.ex
  refine ⟨len, fun A outer s H us vs Q E hG hr e0 hb r hsp => ?_⟩
  have inH : ∀ b o, base.get? b = some o → s.heap.get? b = some o := fun b o e => (e0.bs b o e).1
  have KX : K.In s.heap := e0.mod.kin.keeps inH
  have kinds : ∀ y ∈ ps.zip us, (defScope st).names.lookup y.1 = some .local ∨ ((defScope st).names.lookup y.1 = some .cell ∧ ((cellsFrom (s.heap.objs.size + 1) (defScope st).names []).lookup y.1).isSome = true) := by
    rintro ⟨n, v⟩ hy
    exact (S.par n (List.of_mem_zip hy).1).imp id fun q => ⟨q, PySem.W.cellsFrom_some _ _ _ (.inl q)⟩
  refine codeAny_call_function hr.depth (KX _ _ lk) rfl S.co S.gen rfl (PySem.W.codeRec_of KX hcd) (hb _ _ _ _ (wpAny_newFunctionEnv_cells S.kind kinds fun env he s1 x => ?_))
  subst he
  obtain ⟨t, ht, hq⟩ := body cdv A outer s H vs Q E hG (hr.deeper _) hsp
  have I := start_G (cm := cm) (P := P) (w := w) (K := K) (mg := mg) (base := base) (E := E) S (fun z => hd z A hG) e0 (len _ _ _ _ hsp) r x
  refine ⟨(e0.mod.nolimit.keeps inH).keeps x.toInCall.keep, codeAny_func (wpAny_mono (ht.run [] s1 (L2.start N vs) H _ I hq) (fun fl s' hs => ?_) fun _ _ z => z)⟩
  cases fl with
  | brk => obtain ⟨_, _, _, q⟩ := hs; exact q.elim
  | cont => obtain ⟨_, _, _, q⟩ := hs; exact q.elim
  | next => obtain ⟨σ', H', J, q⟩ := hs; exact ⟨.non, H', J.os, J.bare, J.base, J.hok, rfl, q⟩
  | ret u => obtain ⟨v, σ', H', J, rv, q⟩ := hs; exact ⟨v, H', J.os, J.bare, J.base, J.hok, rv, q⟩
/-- the body by data -/
theorem fn_DG {k : Nat} {f : Addr} {fd : FuncData} {x qual : Str} {st : Stmt} {N ps : List Str} {pm : List Bool} {m : M Fl} (F : Fun K x qual st f fd) (Sc : FnScope N ps (defScope st)) (hp : ps.length = pm.length) (hN : pm.length ≤ N.length) (hd : cm = true → ∀ A, G A → A.handled = none)
    (body : ∀ (cdv : Value) (A : Around) (outer : List Env) (s : Shared) (H : Hp) (E : XK), G A → L2H.RoomH k (A.deeper (envOfC qual (defScope st) s.heap.objs.size f cdv)) →
      PSds (cxG cm P w K mg base N qual (defScope st) f cdv A outer s H E) (defBody st) m) :
    FnP G P w K mg base (k + 1) f fd ps (spD (sgOf K mg) pm (runD pm N.length m)) := by
  refine fn_G (cm := cm) F Sc hd (fun vs H Q E h => ?_) (fun cdv A outer s H vs Q E hG hr h => ?_)
  · obtain ⟨F, ds, _, A, _⟩ := h
    rw [hp]
    exact A.len.1.symm
  · obtain ⟨F0, ds, fh, AD, nd, q⟩ := h
    obtain ⟨l1, l2⟩ := AD.len
    have hl : ds.length = pm.length := (l1.trans l2).symm
    have q2 : match endR pm (m (initE pm N.length ds)) with
      | .ok d ms => ∀ v F' H', Fin (sgOf K mg) F0 H pm vs ms F' H' → Dat (sgOf K mg) F' v d → Q v H'
      | .ex c fs ms => ∀ cls dd F' H', Fin (sgOf K mg) F0 H pm vs ms F' H' → ExD (sgOf K mg) F' H' cls dd c fs → E cls dd H'
      | .bad => False := by
      unfold runD at q
      rw [if_pos hl] at q
      exact q
    refine ⟨_, (body cdv A outer s H E hG hr).run (bxOf H pm vs) (fun cls d _ H => E cls d H) (takes_of rfl rfl rfl rfl) (passes_of rfl), F0, initE pm N.length ds, rel_init fh AD nd (by rw [hl]; exact hN), ?_⟩
    cases z : m (initE pm N.length ds) with
    | bad =>
      rw [z] at q2
      exact q2
    | ex n fs e =>
      rw [z] at q2
      have q3 : match (match muts pm e with
          | some ms => DR.ex n fs ms
          | none => DR.bad) with
        | .ok d ms => ∀ v F' H', Fin (sgOf K mg) F0 H pm vs ms F' H' → Dat (sgOf K mg) F' v d → Q v H'
        | .ex c fs ms => ∀ cls dd F' H', Fin (sgOf K mg) F0 H pm vs ms F' H' → ExD (sgOf K mg) F' H' cls dd c fs → E cls dd H'
        | .bad => False := q2
      cases hm : muts pm e with
      | none => rw [hm] at q3; exact q3.elim
      | some ms =>
        rw [hm] at q3
        exact fun cls dd σ' F' H' r g xd => q3 cls dd F' H' (fin_of AD r g hm) xd
    | ok fl e =>
      rw [z] at q2
      have fin : ∀ {d : D}, (match (match muts pm e with
          | some ms => DR.ok d ms
          | none => DR.bad) with
        | .ok d ms => ∀ v F' H', Fin (sgOf K mg) F0 H pm vs ms F' H' → Dat (sgOf K mg) F' v d → Q v H'
        | .ex c fs ms => ∀ cls dd F' H', Fin (sgOf K mg) F0 H pm vs ms F' H' → ExD (sgOf K mg) F' H' cls dd c fs → E cls dd H'
        | .bad => False) → ∀ v σ' F' H', Rel (sgOf K mg) (bxOf H pm vs) F' H' σ' e → Gr (bxOf H pm vs) F0 F' → Dat (sgOf K mg) F' v d → Q v H' := fun {d} q3 => by
        cases hm : muts pm e with
        | none => rw [hm] at q3; exact q3.elim
        | some ms =>
          rw [hm] at q3
          exact fun v σ' F' H' r g dv => q3 v F' H' (fin_of AD r g hm) dv
      cases fl with
      | rt d => exact fin (d := d) q2
      | nx => exact fun σ' F' H' r g => fin (d := .non) q2 .non σ' F' H' r g .non
      | bk => exact q2.elim
      | ct => exact q2.elim
end
/-! ### calls -/
def DefP (G : Around → Prop) (P : Program) (w : World) (K : PySem.W.Frag) (mg : Str → Option Value) (base : Heap) (k : Nat) (x : Str) (pm : List Bool) (den : List D → DR) : Prop :=
  ∃ f fd ps, mg x = some (.ref f) ∧ PySem.W.keepIn K (.ref f) = true ∧ Binds K fd ps [] ∧ FnP G P w K mg base k f fd ps (spD (sgOf K mg) pm den)
section
variable {G : Around → Prop} {X : Cx} {k : Nat} {e : Expr} {es : List Expr} {x : Str} {p pos : Pos}
theorem run_P {f : Addr} {fd : FuncData} {ps : List Str} {sp : Sp} {E : L2.St → XK} {pins : List (Addr × Obj)} {σ : L2.St} {H : Hp} {s : Shared} {Q : VK} {us : List Value} {vs : List V} (F : FnP G X.prog X.w X.K X.mg X.base k f fd ps sp) (hG : G X.A) (hr : L2H.RoomH k X.A) (hb : Binds X.K fd ps []) (hx : PassesAt (L2.CX X.prog X.w) X σ (E σ))
    (I : Inv X pins σ H s) (r : Vals vs us) (h : sp vs H Q (E σ)) : wpAny (model X.prog X.w) X.A (call (.ref f) us) (EP X pins σ Q) X.xe s := by
  have n : (us ++ []).length = ps.length := by rw [List.append_nil, ← Paired.length r]; exact F.len _ _ _ _ h
  have b : BindsTo s fd ⟨us, []⟩ (ps.zip us) := by
    have := hb s us I.kIn n
    rwa [List.append_nil] at this
  refine wpAny_call (codeAny_mono (F.run X.A X.stack s H us vs Q (E σ) hG hr I.env0 b r h) fun r s' hq => ?_)
  rcases r with e | fl
  · exact hx pins H s e s' I hq
  · cases fl with
    | ret u => exact I.after hq
    | next => exact hq.elim
    | brk => exact hq.elim
    | cont => exact hq.elim
theorem px_callP {pm : List Bool} {den : List D → DR} {m : M (List Op)} (D0 : DefP G X.prog X.w X.K X.mg X.base k x pm den) (hG : G X.A) (hr : L2H.RoomH k X.A) (ha : PAr X (e :: es) m) (hg : Gl X x := by rfl) (hdb : (x == ("__debug__" : Str)) = false := by decide)
    (he : starEach (e :: es) X.env = (false, eval e X.env) :: starEach es X.env := by rfl) (hpl : (backTo pos (starEach es X.env)).any (·.1) = false := by rfl) : PX X (.Call (.Name x p) (e :: es) [] pos) (eCall pm den m) := by
  obtain ⟨f, fd, ps, hm, hk, hb, F⟩ := D0
  have pe : ∀ (c : Bx) (W : WX), Takes X W → PE X (.Call (.Name x p) (e :: es) [] pos) (tCallS (spD (Sx X) pm den) (WE W) (tAs (Sx X) c W m)) := fun c W tk => ⟨fun pins s σ H Q I h => by
    refine wpAny_Call_Name_kw (ld_glob I hg hm ?_ hdb)
    refine PySem.W.callWith_K (h₀ := X.base) I.ok.mod.kin hk (thn ((ha.run c W tk).run pos pins s σ H _ I h) fun us s1 ⟨vs, H1, I1, r, q⟩ => ⟨I1.kIn, ?_⟩) he hpl
    exact run_P F hG hr hb (passAt tk σ) I1 r q⟩
  refine ⟨fun c W tk => PE.imp (pe c W tk) fun σ H Q ⟨F0, e0, r, q⟩ => ⟨F0, e0, r, ?_⟩⟩
  refine Okx.imp (Okx.bind q) fun os e1 k1 vs F1 H1 r1 g1 po => ?_
  cases z : argsOf e1 pm os with
  | none => simp only [z] at k1; exact k1.elim
  | some ds =>
    simp only [z] at k1
    by_cases nd : (mIx pm os).Nodup
    · rw [if_pos nd] at k1
      have P := plc_of z
      obtain ⟨A, _, ndA⟩ := adr_ix P r1 po
      refine ⟨F1, ds, r1.fh, A, ndA nd, ?_⟩
      cases zd : den ds with
      | bad => simp only [zd] at k1; exact k1.elim
      | ok d ms =>
        simp only [zd] at k1
        intro v F' H' fi dv
        obtain ⟨r2, g2⟩ := rel_call r1 P po nd fi
        exact k1 v F' H' r2 (g1.trans g2) dv
      | ex n fs ms =>
        simp only [zd] at k1
        intro cls dd F' H' fi xd
        obtain ⟨r2, g2⟩ := rel_call r1 P po nd fi
        exact k1 cls dd σ F' H' r2 (g1.trans g2) xd
    · rw [if_neg nd] at k1
      exact k1.elim
end
end DP
set_option Elab.async false
set_option linter.all false
set_option maxRecDepth 100000
set_option maxHeartbeats 2000000
/-! DP40: repr, int(text), text.index, text * n, (x,) * 0 or 1. -/
namespace DP
open PySem PySem.Spec L2
open PyProof.Rows hiding St

/-- a text that may stand as data -/
def okS (t : Str) : Option D := if t.length ≤ sizeLine ∧ PyData.strOk t = true then some (.str t) else none
theorem okS_some {t : Str} {d : D} (h : okS t = some d) : sOk t ∧ d = .str t := by
  unfold okS at h
  by_cases c : t.length ≤ sizeLine ∧ PyData.strOk t = true
  · rw [if_pos c] at h
    cases h
    exact ⟨c, rfl⟩
  · rw [if_neg c] at h
    cases h
def reprD : List D → Option D
  | [d] => if pl d 30 = true ∧ (toP d).showable = true then okS (toP d).shown else none
  | _ => none
section
variable {X : Cx}
theorem d_repr (hg : X.A.guards = some []) (hu : X.A.units + 64 < cLine) : CallR X (.builtin "repr") (rDs (Sx X) reprD) := by
  intro pins s σ H xs us Q I rx ⟨F, ds, d, fh, da, e, q⟩
  match ds, da, e with
  | [z], da, e =>
    obtain ⟨v, rfl, h⟩ := paired1 da
    have e' : (if pl z 30 = true ∧ (toP z).showable = true then okS (toP z).shown else none) = some d := e
    by_cases hp : pl z 30 = true ∧ (toP z).showable = true
    · rw [if_pos hp] at e'
      obtain ⟨hs, rfl⟩ := okS_some e'
      obtain ⟨u, rfl, ru⟩ : ∃ u, us = [u] ∧ RelV v u := by
        cases rx with
        | cons r1 r2 => cases r2; exact ⟨_, rfl, r1⟩
      obtain ⟨h1, h2, h3⟩ := dpR_of fh h hp.1
      obtain ⟨as, rd⟩ := Dp.reads I _ _ _ h1 ru
      have fin : ∀ (s' : Shared), (∀ b o, s.heap.get? b = some o → s'.heap.get? b = some o) → s'.os = s.os → s'.gens = s.gens → s'.drawn = s.drawn → ∀ t, EP X pins σ Q (.str (toP z).shown t) s' := fun s' k e1 e2 e3 t => by
        obtain ⟨hp', g', d', t', o'⟩ := s'
        obtain rfl : g' = s.gens := e2
        obtain rfl : d' = s.drawn := e3
        obtain rfl : o' = s.os := e1
        exact ⟨.str _, H, I.kept (t' := t') k, ⟨t, rfl⟩, q _ F H (Ext.refl fh) (.str hs)⟩
      have refs : ∀ {a : Addr}, u = .ref a → wpAny (model X.prog X.w) X.A (call (.builtin "repr") [u]) (EP X pins σ Q) X.xe s := fun {a} ea => by
        subst ea
        exact repr_of_reads' rd hp.2 (PyData.noDict_hsm (PyData.hasDict_of_canLay _ h2)) hg (by omega) (fun _ _ z => z) (fun h' t tk k => fin { s with heap := h', toks := tk } k rfl rfl rfl t) hs.1
      cases z with
      | non =>
        obtain rfl : v = .non := datR_non h
        obtain rfl : u = Value.none := ru
        exact PySem.P.repr_of_none (fin { s with toks := s.toks + 1 } (fun _ _ z => z) rfl rfl rfl _)
      | bl b =>
        obtain rfl : v = .bl b := datR_bl h
        obtain rfl : u = Value.bool b := ru
        exact PySem.P.repr_of_bool (fin { s with toks := s.toks + 1 } (fun _ _ z => z) rfl rfl rfl _)
      | int i =>
        obtain rfl : v = .int i := datR_int h
        obtain ⟨t, rfl⟩ := ru
        exact PySem.P.repr_of_int (of_decide_eq_true (show decide (i.natAbs.log2 < 1920) = true from hp.2)) (fin { s with toks := s.toks + 1 } (fun _ _ z => z) rfl rfl rfl _)
      | str x =>
        obtain ⟨rfl, _⟩ := datR_str h
        obtain ⟨t, rfl⟩ := ru
        exact PySem.P.repr_of_str (fin { s with toks := s.toks + 1 } (fun _ _ z => z) rfl rfl rfl _) hs.1
      | tup zs =>
        cases h1 with
        | tup => exact refs ru
      | lst zs =>
        cases h1 with
        | lst => exact refs ru
      | _ => exact absurd hp.1 (by simp [pl])
    · rw [if_neg hp] at e'
      cases e'
/-! ### int(text) -/
def intSD : List D → Option D
  | [.str a] => if a.length ≤ 640 then (PySem.intText? a).map D.int else none
  | _ => none
theorem d_intS : CallR X (.type "int") (rDs (Sx X) intSD) := CallR.imp call_int_str fun xs H Q ⟨F, ds, d, fh, da, e, q⟩ => by
  match ds, da, e with
  | [.str a], da, e =>
    obtain ⟨v, rfl, h⟩ := paired1 da
    obtain ⟨rfl, _⟩ := datR_str h
    have e' : (if a.length ≤ 640 then (PySem.intText? a).map D.int else none) = some d := e
    by_cases hl : a.length ≤ 640
    · rw [if_pos hl] at e'
      cases z : PySem.intText? a with
      | none => rw [z] at e'; cases e'
      | some n =>
        rw [z] at e'
        cases e'
        exact ⟨a, n, rfl, z, hl, q _ F H (Ext.refl fh) (.int _)⟩
    · rw [if_neg hl] at e'
      cases e'
/-! ### text.index -/
def sindexD : D → List D → Option D := fun a xs => match a, xs with
  | .str a, [.str b] => (Txt.index0 a b).map fun k => .int (k : Nat)
  | _, _ => none
theorem mt_sindex : MtR X "str.index" (rMt (Sx X) sindexD) := by
  intro pins s σ H x xs v us Q I rx rv ⟨F, a, ds, d, fh, da, dx, e, q⟩
  match a, ds, da, dx, e with
  | .str a, [.str b], da, dx, e =>
    obtain ⟨w, rfl, dw⟩ := paired1 dx
    obtain ⟨rfl, _⟩ := datR_str da
    obtain ⟨rfl, _⟩ := datR_str dw
    obtain ⟨t, rfl⟩ := rx
    obtain ⟨u, rfl, t2, rfl⟩ := vals1 rv
    have e' : (Txt.index0 a b).map (fun k => D.int (k : Nat)) = some d := e
    unfold Txt.index0 at e'
    cases z : Builtin.Str.occurrences a b 0 a.length 1 with
    | nil => rw [z] at e'; cases e'
    | cons k rest =>
      rw [z] at e'
      cases e'
      exact PySem.SC.index z ⟨.int (k : Nat), H, I.tok _, ⟨_, rfl⟩, q _ F H (Ext.refl fh) (.int _)⟩
/-! ### text * n -/
def repS (x : Str) (n : Nat) : Str := ⟨(List.replicate n x.cps).foldl (· ++ ·) #[]⟩
def mulS : D → D → Option D := fun a b => match a, b with
  | .str x, .int n => if 2 ≤ n ∧ n ≤ 1000 ∧ 1 ≤ x.length ∧ x.length ≤ 1000 then okS (repS x n.toNat) else none
  | _, _ => none
theorem d_mulS : OpR X (binaryOp .Mult) (rD (Sx X) mulS) := by
  intro pins s σ H x y v u Q I rx ry ⟨F, a, b, d, fh, da, db, e, q⟩
  match a, b, da, db, e with
  | .str a, .int n, da, db, e =>
    obtain ⟨rfl, _⟩ := datR_str da
    obtain rfl : y = .int n := datR_int db
    obtain ⟨t, rfl⟩ := rx
    obtain ⟨t2, rfl⟩ := ry
    have e' : (if 2 ≤ n ∧ n ≤ 1000 ∧ 1 ≤ a.length ∧ a.length ≤ 1000 then okS (repS a n.toNat) else none) = some d := e
    by_cases c : 2 ≤ n ∧ n ≤ 1000 ∧ 1 ≤ a.length ∧ a.length ≤ 1000
    · rw [if_pos c] at e'
      obtain ⟨c1, c2, c3, c4⟩ := c
      obtain ⟨hs, rfl⟩ := okS_some e'
      have hm : a.length * n.toNat ≤ 1000 * 1000 := Nat.mul_le_mul c4 (by omega)
      refine PySem.P.mul_str (by rw [decide_eq_false (by omega), decide_eq_false (by omega)] <;> rfl) (fun _ _ => ?_) (fun _ _ => ?_) ?_
      · have hd : (2 ^ 63 - 1 : Int) / 1000 ≤ (2 ^ 63 - 1) / n := by
          have h1 : (2 ^ 63 - 1 : Int) / 1000 * n ≤ 2 ^ 63 - 1 := by
            have h2 : (2 ^ 63 - 1 : Int) / 1000 * n ≤ (2 ^ 63 - 1 : Int) / 1000 * 1000 := Int.mul_le_mul_of_nonneg_left c2 (by decide)
            exact Int.le_trans h2 (by decide)
          exact Int.le_ediv_of_mul_le (by omega) h1
        have hk : (1000 : Int) ≤ (2 ^ 63 - 1 : Int) / 1000 := by decide
        omega
      · unfold Builtin.Str.tooLong
        rw [sizeLine_eq]
        exact decide_eq_false (by omega)
      · rw [if_neg (by omega), if_neg (by
          have h1 : (n == 1) = false := beq_eq_false_iff_ne.mpr (by omega)
          have h2 : (a.length == 0) = false := beq_eq_false_iff_ne.mpr (by omega)
          rw [h1, h2]
          exact Bool.false_ne_true)]
        refine ⟨hs.1, ?_⟩
        exact ⟨.str _, H, I.tok _, ⟨_, rfl⟩, q _ F H (Ext.refl fh) (.str hs)⟩
    · rw [if_neg c] at e'
      cases e'
end
end DP
set_option Elab.async false
set_option linter.all false
set_option maxRecDepth 100000
set_option maxHeartbeats 2000000
/-! DP41: enumerate(list, start=k). -/
namespace DP
open PySem PySem.Spec L2
open PyProof.Rows hiding St

section
variable {M : Model} {A : Around} {E : Value → Shared → Prop} {s : Shared} {env : Env}
theorem call_ty_kw {pos : Pos} {T : String} {e : Expr} {rest : List Expr} {kws : List Keyword} {ks : List Str} {Q : Value → Shared → Prop}
    (h : wpAny M A (spliced (backTo pos (starEach (e :: rest) env))) (fun vs s1 => wpAny M A (evalAll ((backToKw pos (keywordEach kws env)).map (·.2))) (fun ws s2 => wpAny M A (call (.type T) vs (ks.zip ws)) Q E s2) E s1) E s)
    (he : backTo pos (starEach (e :: rest) env) = (false, eval e env) :: backTo pos (starEach rest env)) (hp : (backTo pos (starEach (e :: rest) env)).any (·.1) = false) (ha : (backToKw pos (keywordEach kws env)).all (·.1.isSome) = true)
    (hn : (backToKw pos (keywordEach kws env)).any (·.1.isNone) = false) (hk : (backToKw pos (keywordEach kws env)).filterMap (·.1) = ks) :
    wpAny M A (callWith pos (.type T) [] (backTo pos (starEach (e :: rest) env)) (backToKw pos (keywordEach kws env))) Q E s := by
  have args : wpAny M A (evalArgs (.type T) true (backTo pos (starEach (e :: rest) env)) (backToKw pos (keywordEach kws env))) (fun a s1 => wpAny M A (call (.type T) ([] ++ a.pos) a.kw) Q E s1) E s := by
    rw [he] at h ⊢
    refine PyProof.Rows.evalArgs_kwB ha (wpAny_mono h (fun vs s1 q => wpAny_mono q (fun ws s2 q2 => ?_) fun _ _ z => z) fun _ _ z => z)
    rw [hk]
    exact q2
  unfold callWith
  refine wpAny_bind (wpAny_holding (wpAny_mono args (fun a s1 q => wpAny_bind (wpAny_standAt ?_)) fun _ _ z => z))
  simp only [hp, hn, Bool.or_false]
  refine wpAny_bind (wpAny_pure (wpAny_bind (wpAny_mono q (fun r s2 q2 => ?_) fun _ _ z => z)))
  exact wpAny_bind (wpAny_holding (wpAny_point (wpAny_pure q2)))
end
theorem draws_l {P : Program} {w : World} {A : Around} {it l : Addr} {items : Array Value} (hh : A.handled = none) : Draws P w A it [it, l] items.size (fun i x => items[i]? = some x) (fun i h => h.IsListIter it l i ∧ h.IsList l items) where
  live := fun i h ⟨⟨o, ho, _⟩, _⟩ => ⟨o, ho⟩
  frame := fun i h h' ⟨a, b⟩ k => ⟨a.at fun o q => k it (by simp) o q, b.at fun o q => k l (by simp) o q⟩
  item := fun i s Q E hi ⟨a, b⟩ hQ => by
    have hx : items[i]? = some items[i] := Array.getElem?_eq_getElem hi
    have ne : l ≠ it := fun z => by
      obtain ⟨o, h1, h2, _⟩ := a
      obtain ⟨o', g1, g2, _⟩ := b
      rw [z, h1] at g1
      cases g1
      rw [h2] at g2
      exact absurd (Value.type.inj g2) (by decide)
    exact wpAny_nextOf_list_item a b hx fun h' a' sb => hQ _ h' s.toks hx ⟨a', b.at fun o q => (sb.2 l ne).trans q⟩ sb
  done := fun s Q E ⟨a, b⟩ hE => wpAny_nextOf_list_end hh a b (Array.getElem?_eq_none (Nat.le_refl _)) hE
def IteK (K : PySem.W.Frag) (a : Addr) (k : Int) : It :=
  ⟨fun i H => ∃ (xs : List V) (x : V), SqL K H a xs ∧ xs[i]? = some x, fun i H v H' => ∃ T x, v = .ref T ∧ H T = none ∧ H' = upd H T (.tup [.int (k + (i : Nat)), x]) ∧ ∀ xs, SqL K H a xs → xs[i]? = some x, fun i H => ∃ xs : List V, SqL K H a xs ∧ xs.length ≤ i⟩
theorem turn_enumK {P : Program} {w : World} {K : PySem.W.Frag} {elts : List Expr} {kk : Nat} {tpos : Pos} (a e it : Addr) (k : Int) :
    Turn P w K (.Tuple elts kk tpos) (IteK K a k) [e, it] e (fun i h => (∃ old, IsEnum h e it (k + ((i : Nat) : Int)) old) ∧ h.IsListIter it a i ∧ e ≠ it ∧ e ≠ a) where
  mem := by simp
  obj := fun i h st b hb => by
    obtain ⟨⟨old, he⟩, ⟨o, ho, hc, hd⟩, _⟩ := st
    rcases (show b = e ∨ b = it by simpa using hb) with rfl | rfl
    · exact ⟨_, he, fun v q => nomatch q⟩
    · exact ⟨o, ho, fun v q => by rw [hd] at q; cases q⟩
  keep := fun i h h' ⟨⟨old, he⟩, hi, hne⟩ kp => ⟨⟨old, kp e (by simp) _ he⟩, hi.at fun o q => kp it (by simp) o q, hne⟩
  item := by
    intro X hP hw hK hc i pins s σ H E I hf st hg
    subst hP hw hK
    obtain ⟨⟨old, he⟩, hit, hne, hna⟩ := st
    obtain ⟨xs, x, hq, hx⟩ := hg
    obtain ⟨its, rv, p, hz⟩ := I.list hq
    obtain ⟨u, hu, ru⟩ := rv.get hx
    have hi : i < its.toArray.size := by rw [List.size_toArray]; exact (List.getElem?_eq_some_iff.mp hu).1
    have el : e < s.heap.objs.size := Heap.lt_size he
    have il : it < s.heap.objs.size := by obtain ⟨_, q, _⟩ := hit; exact Heap.lt_size q
    refine wpAny_pyNext_enum_itemC (draws_l (A := X.A.in1) (I.ok.hd hc)) he ⟨hit, p.isList⟩ hi hne (by simp [hne, hna]) fun y h' tk hy ho hst hT hsz hk => ?_
    have ey : y = u := by
      have hy' : its.toArray[i]? = some y := hy
      rw [List.getElem?_toArray, hu] at hy'
      exact (Option.some.inj hy').symm
    subst ey
    refine ⟨_, rfl, wpAny_letOwnedTupleGo_enum (s := { s with heap := h', toks := tk + 1 }) ho fun h'' he' sb => ?_⟩
    have hT2 : h''.get? s.heap.objs.size = some { cls := .type "tuple", data := .seq #[.int (k + (i : Nat)) tk, y] } := (sb.2 _ (Nat.ne_of_gt el)).trans hT
    have new : ObjOk X.prog X.w (upd H s.heap.objs.size (.tup [.int (k + (i : Nat)), x])) h'' s.heap.objs.size (.tup [.int (k + (i : Nat)), x]) := ⟨DP.two_le, _, .cons ⟨_, rfl⟩ (.cons ru .nil), _, hT2, rfl, _, rfl⟩
    have I1 : Inv X pins σ (upd H s.heap.objs.size (.tup [.int (k + (i : Nat)), x])) { s with heap := h'', toks := tk + 1 } := by
      refine I.turnedNew (ch := [e, it]) (fun b ob hb q => ?_) hf (Nat.le_refl _) new
      have n1 : b ≠ e := fun z => hb (by simp [z])
      have n2 : b ≠ it := fun z => hb (by simp [z])
      exact (sb.2 b n1).trans (hk b ob n1 n2 q)
    refine ⟨.ref s.heap.objs.size, _, I1, rfl, ⟨_, x, rfl, I.hok.fresh (Nat.le_refl _), rfl, fun ys hy => by rw [I.list_inj hy hq]; exact hx⟩, ⟨⟨y, ?_⟩, hst.1.at fun o q => (sb.2 it (Ne.symm hne)).trans q, hne, hna⟩, fun b hb => ?_⟩
    · rw [show k + ((i + 1 : Nat) : Int) = k + (i : Int) + 1 by omega]
      exact he'
    · have lt : b < s.heap.objs.size := by
        rcases (show b = e ∨ b = it by simpa using hb) with rfl | rfl
        · exact el
        · exact il
      rw [upd_ne (Nat.ne_of_lt lt)]
      exact (hf b hb).1
  done := by
    intro X hP hw hK hc i pins s σ H E I hf st hg
    subst hP hw hK
    obtain ⟨⟨old, he⟩, hit, hne, hna⟩ := st
    obtain ⟨xs, hq, hx⟩ := hg
    obtain ⟨its, rv, p, hz⟩ := I.list hq
    obtain ⟨f0, f1, f2, f3, f4, f5⟩ := hf it (by simp)
    have D : Draws X.prog X.w X.A.in1 it [it, a] i (fun j x => its.toArray[j]? = some x ∧ j < its.toArray.size) (fun j h => h.IsListIter it a j ∧ h.IsList a its.toArray ∧ i ≤ j) :=
      ⟨fun j h ⟨⟨o, ho, _⟩, _⟩ => ⟨o, ho⟩, fun j h h' ⟨a1, b1, c1⟩ kp => ⟨a1.at fun o q => kp it (by simp) o q, b1.at fun o q => kp a (by simp) o q, c1⟩, fun j s Q E hj ⟨_, _, c1⟩ => absurd hj (Nat.not_lt.mpr c1),
        fun s Q E ⟨a1, b1, c1⟩ hE => wpAny_nextOf_list_end (I.ok.hd hc) a1 b1 (Array.getElem?_eq_none (by rw [List.size_toArray, ← rv.length]; exact hx)) hE⟩
    exact wpAny_pyNext_enum_endD D he ⟨hit, p.isList, Nat.le_refl _⟩ fun h' eb => ⟨rfl, I.turned (t' := s.toks) (fun b o hb q => eb b o hb q) f0 f1 f3 f4 f5⟩
  self := fun A i s Q E ⟨⟨_, he⟩, _⟩ h => wpAny_pyIter_enum he h
def enumKD (k : Int) (ds : List D) : List D := ds.mapIdx fun i d => .tup [.int (k + ((i : Nat) : Int)), d]
theorem itok_enumK {S : Sg} {F : Hp} {a : Addr} {xs : List V} {ds : List D} {k : Int} (h : SqL S.K F a xs) (hd : Dats S F xs ds) : ItOk S F (IteK S.K a k) (enumKD k ds) := fun F' H' fm fh i => by
  have hs : SqL S.K H' a xs := L2.Same.seq fh (L2.Same.seq fm h)
  unfold enumKD
  refine ⟨fun d hi => ?_, fun hi => ⟨xs, hs, by rw [List.length_mapIdx] at hi; rw [hd.length]; exact hi⟩⟩
  rw [List.getElem?_mapIdx, Option.map_eq_some_iff] at hi
  obtain ⟨d0, h0, rfl⟩ := hi
  obtain ⟨v, hv, dv⟩ := hd.get h0
  refine ⟨⟨xs, v, hs, hv⟩, fun x H'' hy => ?_⟩
  obtain ⟨T, y, rfl, hT, rfl, hx⟩ := hy
  have e : y = v := Option.some.inj ((hx _ hs).symm.trans hv)
  subst e
  have x := Ext.new (o := HO.tup [.int (k + ((i : Nat) : Int)), y]) fh hT
  exact ⟨_, x, .tup (SqT.of upd_same) two_le (.cons (.int _) (.cons ((dv.mono fm).mono x.ff) .nil))⟩
def iEnK (k : Int) (m : M (List Op)) : M (List D) := fun e => (m e).bind fun os e => match os with
  | [.va d] => (match asL d with
    | some ds => .ok (enumKD k ds) e
    | none => .bad)
  | _ => .bad
section
variable {X : Cx} {a : Expr} {p pos tpos kp cp : Pos} {elts : List Expr} {kk j : Nat}
theorem pi_enK {m : M (List Op)} {k : Int} (h : PAr X [a] m) (hm : X.mg "enumerate" = none) (hk0 : -(2 ^ 63) ≤ k := by decide) (hk1 : k < 2 ^ 63 := by decide) (hg : Gl X "enumerate" := by rfl)
    (he : backTo pos (starEach [a] X.env) = (false, eval a X.env) :: backTo pos (starEach [] X.env) := by rfl) (hp : (backTo pos (starEach [a] X.env)).any (·.1) = false := by rfl) (ha : (backToKw pos (keywordEach [⟨some "start", .Constant (.int k) j cp, kp⟩] X.env)).all (·.1.isSome) = true := by rfl)
    (hn : (backToKw pos (keywordEach [⟨some "start", .Constant (.int k) j cp, kp⟩] X.env)).any (·.1.isNone) = false := by rfl) (hks : (backToKw pos (keywordEach [⟨some "start", .Constant (.int k) j cp, kp⟩] X.env)).filterMap (·.1) = [Str.ofString "start"] := by rfl) :
    PIt X (.Tuple elts kk tpos) (.Call (.Name "enumerate" p) [a] [⟨some "start", .Constant (.int k) j cp, kp⟩] pos) (iEnK k m) := by
  refine ⟨fun c W tk => PI.imp (t := fun σ H R => tAs (Sx X) c W m σ H fun vs H1 => ∃ ad xs, vs = [V.ref ad] ∧ SqL X.K H1 ad xs ∧ R (IteK X.K ad k) H1) ?_ fun σ H Q ⟨F, e, r, kq⟩ => ⟨F, e, r, ?_⟩⟩
  · refine ⟨fun pins s σ H R I q => ?_⟩
    refine wpAny_Call_Name_kw (ld_blt I hg hm boot_enumerate (call_ty_kw (thn ((h.run c W tk).run pos pins s σ H _ I q) fun us s1 ⟨vs, H1, I1, r1, q1⟩ => ?_) he hp ha hn hks))
    obtain ⟨ad, xs, ex, hq, q⟩ := q1
    subst ex
    obtain ⟨u, rfl, ru⟩ : ∃ u, us = [u] ∧ RelV (.ref ad) u := by
      cases r1 with
      | cons z1 z2 => cases z2; exact ⟨_, rfl, z1⟩
    obtain rfl : u = Value.ref ad := ru
    refine PyProof.Rows.kws_cons (wpAny_Constant_int (PyProof.Rows.kws_nil ?_))
    obtain ⟨its, rv, p', hz⟩ := I1.list hq
    have I2 : Inv X pins σ H1 { s1 with toks := s1.toks + 1 } := I1.tok _
    refine enum_begins_start (s := { s1 with toks := s1.toks + 1 }) (begins_list ad its.toArray) p'.isList hk0 hk1 fun h' he hit hsz hk => wpAny_pyIter_enum he ?_
    have la : ad < s1.heap.objs.size := by obtain ⟨o, q, _⟩ := p'.isList; exact Heap.lt_size q
    have I3 : Inv X pins σ H1 { s1 with heap := h', toks := s1.toks + 1 } := I1.kept (t' := s1.toks + 1) hk
    refine ⟨s1.heap.objs.size + 1, [s1.heap.objs.size + 1, s1.heap.objs.size], _, _, H1, rfl, I3, turn_enumK ad (s1.heap.objs.size + 1) s1.heap.objs.size k, ⟨⟨.none, ?_⟩, ⟨_, hit, rfl, rfl⟩, Nat.succ_ne_self _, Nat.ne_of_gt (Nat.lt_succ_of_lt la)⟩, fun b hb => ?_, q⟩
    · rw [show k + ((0 : Nat) : Int) = k by omega]
      exact he
    · have hle : s1.heap.objs.size ≤ b := by
        rcases (show b = s1.heap.objs.size + 1 ∨ b = s1.heap.objs.size by simpa using hb) with rfl | rfl
        · exact Nat.le_succ _
        · exact Nat.le_refl _
      exact I1.fpOk hle (I1.hok.fresh hle)
  · refine Okx.imp (Okx.bind kq) fun os e1 k1 vs F1 H1 r1 g1 o1 => ?_
    match os, o1, k1 with
    | [.va d], .cons h1 .nil, k1 =>
      cases z : asL d with
      | none => simp only [z] at k1; exact k1.elim
      | some ds =>
        simp only [z] at k1
        obtain ⟨ad, xs, rfl, q1, q2⟩ := asL_ok h1 z
        exact ⟨ad, xs, rfl, L2.Same.seq r1.fh q1, k1 _ F1 H1 r1 g1 (itok_enumK q1 q2)⟩
end
end DP
set_option Elab.async false
set_option linter.all false
set_option maxRecDepth 100000
set_option maxHeartbeats 2000000
/-! DP42: (x,) * 0 and * 1. -/
namespace DP
open PySem PySem.Spec L2
open PyProof.Rows hiding St

theorem tup_mul1 (l : Addr) (v : Value) (n : Nat) (dd : Option Addr) (sl : Array (Option Value)) (u : Tok) :
    Meets (Builtin.«tuple.__mul__» ⟨[.ref l, .int 1 u], []⟩) (fun _ R s => s.heap.get? l = some { cls := .type "tuple", dict := dd, data := .seq #[v] n, slots := sl } ∧ R (.ok (.ret (.ref l))) s) :=
  .of_wp fun prog w A R s h => by
    obtain ⟨hp, g, d, tk, os⟩ := s
    obtain ⟨hl, h⟩ := h
    have f1 := AutoSeq1.idx_int
    wp_walk using AutoSeq1.wpAny_loadPart' hl
    exact ⟨_, rfl, h⟩
theorem tup_mul0 (l : Addr) (v : Value) (n : Nat) (dd : Option Addr) (sl : Array (Option Value)) (u : Tok) :
    Meets (Builtin.«tuple.__mul__» ⟨[.ref l, .int 0 u], []⟩) (fun _ R s => s.heap.get? l = some { cls := .type "tuple", dict := dd, data := .seq #[v] n, slots := sl } ∧ R (.ok (.ret (.ref s.heap.objs.size))) { s with heap := s.heap.push { cls := Value.type "tuple", data := Data.seq #[] } }) :=
  .of_wp fun prog w A R s h => by
    obtain ⟨hp, g, d, tk, os⟩ := s
    obtain ⟨hl, h⟩ := h
    have f1 := AutoSeq1.idx_int
    wp_walk using AutoSeq1.wpAny_loadPart' hl
    exact ⟨_, rfl, h⟩
def mulT : D → D → Option D := fun a b => match a, b with
  | .tup [x], .int i => if i = 0 then some (.tup []) else if i = 1 then some (.tup [x]) else none
  | _, _ => none
section
variable {X : Cx}
theorem d_mulT : OpR X (binaryOp .Mult) (rD (Sx X) mulT) := by
  intro pins s σ H x y v u Q I rx ry ⟨F, a, b, d, fh, da, db, e, q⟩
  match a, b, da, db, e with
  | .tup [z], .int i, da, db, e =>
    have e' : (if i = 0 then some (D.tup []) else if i = 1 then some (D.tup [z]) else none) = some d := e
    rcases da with da | ⟨_, _, da⟩
    · obtain rfl : y = .int i := datR_int db
      obtain ⟨t, rfl⟩ := ry
      cases da with
      | @tup l xs _ hT hl hd =>
        obtain rfl : v = Value.ref l := rx
        obtain ⟨its, r, ⟨⟨cls, dd, data, sl⟩, ho, hc, n, hdd⟩, hs⟩ := I.tuple (Same.seqT fh hT)
        simp only at hc hdd
        subst hc hdd
        have hx : xs.length = 1 := hd.length
        have hi : its.length = 1 := by rw [← r.length]; exact hx
        obtain ⟨w, rfl⟩ : ∃ w, its = [w] := List.length_eq_one_iff.mp hi
        by_cases c0 : i = 0
        · subst c0
          cases e'
          have hn : H s.heap.objs.size = none := I.hok.fresh (Nat.le_refl _)
          have xx : Ext F H (upd F s.heap.objs.size (.tup [])) (upd H s.heap.objs.size (.tup [])) := Ext.new fh hn
          refine wpAny_binaryOp_repeat_ref (T := "tuple") (U := "int") (by decide) ⟨_, ho, rfl⟩ (fun s' => typeIs_int s' 0 t) noFill_tuple_mul PySem.F.fills_int_mul PySem.F.slot_int_rmul repeat_tuple PySem.F.slot_int_index.lookup
            (call_meets PySem.F.slot_int_rmul (typeIs_int s 0 t) PySem.F.entry_int_rmul (PySem.F.args_int_rmul_2 _ _) (int_rmul_tuple 0 t l [w].toArray n dd sl)
              ⟨ho, rfl, ⟨_, ho, rfl⟩, call_meets PySem.F.slot_tuple_mul ⟨_, ho, rfl⟩ PySem.F.entry_tuple_mul (PySem.F.args_tuple_mul_2 _ _) (tup_mul0 l w n dd sl t) ⟨ho, ?_⟩⟩)
          refine ⟨.ref s.heap.objs.size, _, I.laid (t' := s.toks) (o := .tup []) (fun b ob z => Heap.get?_push_of_some _ z) (Nat.le_refl _) ?_, rfl, q _ _ _ xx (.tup (SqT.of upd_same) (Nat.zero_le _) .nil)⟩
          exact ⟨Nat.zero_le _, [], .nil, IsTup.new _ _⟩
        · rw [if_neg c0] at e'
          by_cases c1 : i = 1
          · subst c1
            rw [if_pos rfl] at e'
            cases e'
            exact wpAny_binaryOp_repeat_ref (T := "tuple") (U := "int") (by decide) ⟨_, ho, rfl⟩ (fun s' => typeIs_int s' 1 t) noFill_tuple_mul PySem.F.fills_int_mul PySem.F.slot_int_rmul repeat_tuple PySem.F.slot_int_index.lookup
              (call_meets PySem.F.slot_int_rmul (typeIs_int s 1 t) PySem.F.entry_int_rmul (PySem.F.args_int_rmul_2 _ _) (int_rmul_tuple 1 t l [w].toArray n dd sl)
                ⟨ho, rfl, ⟨_, ho, rfl⟩, call_meets PySem.F.slot_tuple_mul ⟨_, ho, rfl⟩ PySem.F.entry_tuple_mul (PySem.F.args_tuple_mul_2 _ _) (tup_mul1 l w n dd sl t) ⟨ho, ⟨.ref l, H, I, rfl, q _ F H (Ext.refl fh) (.tup hT hl hd)⟩⟩⟩)
          · rw [if_neg c1] at e'
            cases e'
    · exact da.elim
end
end DP
set_option Elab.async false
set_option linter.all false
set_option maxRecDepth 100000
set_option maxHeartbeats 2000000
/-! DP43: defs and laws where the guards are known; defs that an except suite may call; the end. -/
namespace DP
open PySem PySem.Spec L2
open PyProof.Rows hiding St

def GK (A : Around) : Prop := A.handled = none ∧ A.guards = some []
def GT (_ : Around) : Prop := True
section
variable {P : Program} {w : World} {K : PySem.W.Frag} {mg : Str → Option Value} {base : Heap}
theorem room_of {k : Nat} {A : Around} (h : A.handled = none) (r : L2H.RoomH k A) : Room k A := ⟨h, r.dp, r.un⟩
theorem defG_mk {x : Str} {st : Stmt} {N ps : List Str} {pm : List Bool} {m : M Fl} {k : Nat} (T : TopFn K mg x st) (Sc : FnScope N ps (defScope st)) (hp : ps.length = pm.length) (hN : pm.length ≤ N.length)
    (hb : ∀ (kV doc pm : Value) (an : Option Addr) (cdv ct : Value) (us : List Value), us.length = ps.length → bindArgs (PySem.W.fnOf x x (defArgs st) (defBody st) (defScope st) .none kV doc pm an cdv ct) ⟨us, []⟩ = pure (ps.zip us))
    (body : ∀ (f : Addr) (cdv : Value) (A : Around) (outer : List Env) (s : Shared) (H : Hp) (E : XK), GK (A.deeper (envOfC x (defScope st) s.heap.objs.size f cdv)) → Room k (A.deeper (envOfC x (defScope st) s.heap.objs.size f cdv)) →
      PSds (cxG true P w K mg base N x (defScope st) f cdv A outer s H E) (defBody st) m) : DefP GK P w K mg base (k + 1) x pm (runD pm N.length m) := by
  obtain ⟨f, fd, hm, F⟩ := T
  exact ⟨f, fd, ps, hm, F.kp, F.binds hb, fn_DG (cm := true) F Sc hp hN (fun _ A h => h.1) fun cdv A outer s H E hG hr => body f cdv A outer s H E hG (room_of hG.1 hr)⟩
theorem defT_mk {x : Str} {st : Stmt} {N ps : List Str} {pm : List Bool} {m : M Fl} {k : Nat} (T : TopFn K mg x st) (Sc : FnScope N ps (defScope st)) (hp : ps.length = pm.length) (hN : pm.length ≤ N.length)
    (hb : ∀ (kV doc pm : Value) (an : Option Addr) (cdv ct : Value) (us : List Value), us.length = ps.length → bindArgs (PySem.W.fnOf x x (defArgs st) (defBody st) (defScope st) .none kV doc pm an cdv ct) ⟨us, []⟩ = pure (ps.zip us))
    (body : ∀ (f : Addr) (cdv : Value) (A : Around) (outer : List Env) (s : Shared) (H : Hp) (E : XK), L2H.RoomH k (A.deeper (envOfC x (defScope st) s.heap.objs.size f cdv)) →
      PSds (cxG false P w K mg base N x (defScope st) f cdv A outer s H E) (defBody st) m) : DefP GT P w K mg base (k + 1) x pm (runD pm N.length m) := by
  obtain ⟨f, fd, hm, F⟩ := T
  exact ⟨f, fd, ps, hm, F.kp, F.binds hb, fn_DG (cm := false) F Sc hp hN (fun h => nomatch h) fun cdv A outer s H E _ hr => body f cdv A outer s H E hr⟩
end
def LawP (P : Program) (w : World) (K : PySem.W.Frag) (mg : Str → Option Value) (k : Nat) (x : Str) (den : List D → DR) : Prop :=
  ∃ f fd, mg "law" = some (.ref f) ∧ (∀ (s : Shared) (u : Value), BindsTo s fd ⟨[u], []⟩ [(x, u)]) ∧ ∀ base : Heap, FnP GK P w K mg base k f fd [x] (spD (sgOf K mg) [false] den)
theorem lawG_mk {P : Program} {w : World} {K : PySem.W.Frag} {mg : Str → Option Value} {st : Stmt} {N : List Str} {x : Str} {m : M Fl} {k : Nat} (T : TopFn K mg "law" st) (Sc : FnScope N [x] (defScope st)) (hN : 1 ≤ N.length)
    (hb : ∀ (kV doc pm : Value) (an : Option Addr) (cdv ct : Value) (us : List Value), us.length = ([x] : List Str).length → bindArgs (PySem.W.fnOf "law" "law" (defArgs st) (defBody st) (defScope st) .none kV doc pm an cdv ct) ⟨us, []⟩ = pure (([x] : List Str).zip us))
    (body : ∀ (base : Heap) (f : Addr) (cdv : Value) (A : Around) (outer : List Env) (s : Shared) (H : Hp) (E : XK), GK (A.deeper (envOfC "law" (defScope st) s.heap.objs.size f cdv)) → Room k (A.deeper (envOfC "law" (defScope st) s.heap.objs.size f cdv)) →
      PSds (cxG true P w K mg base N "law" (defScope st) f cdv A outer s H E) (defBody st) m) : LawP P w K mg (k + 1) x (runD [false] N.length m) := by
  obtain ⟨f, fd, hm, F⟩ := T
  refine ⟨f, fd, hm, fun s u => ?_, fun base => fn_DG (cm := true) F Sc rfl hN (fun _ A h => h.1) fun cdv A outer s H E hG hr => body base f cdv A outer s H E hG (room_of hG.1 hr)⟩
  obtain ⟨oc, od, kV, doc, pm, an, cdv, ct, osl, rfl, lk, hcd⟩ := F.ex
  exact .of_eq (hb kV doc pm an cdv ct [u] rfl)
/-- the law's own call, over a script that alone is tracked -/
theorem law_callP {P : Program} {w : World} {K : PySem.W.Frag} {mg mb : Str → Option Value} {k : Nat} {fa a : Addr} {fd : FuncData} {x : Str} {den : List D → DR} {s1 : Shared} {vs : List Value} {ns : List Int} (KX : K.In s1.heap) (hns : s1.heap.Ns mainGlobals mg) (hb : s1.heap.Ns builtinsNs mb)
    (hbb : ∀ x : Str, x ≠ "__name__" → mb x = bootBuiltins x) (hlim : s1.heap.NoLimit) (hg : s1.gens = #[]) (ha : s1.heap.get? a = some { cls := .type "list", data := .seq vs.toArray }) (hi : IntsAre vs ns) (hl : ns.length ≤ sizeLine) (hr : Room k callerA)
    (F : ∀ base : Heap, FnP GK P w K mg base k fa fd [x] (spD (sgOf K mg) [false] den)) (hbind : ∀ (s : Shared) (u : Value), BindsTo s fd ⟨[u], []⟩ [(x, u)]) (hd : ∃ ms, den [.scr ns] = .ok (.bl true) ms) :
    codeAny (model P w) callerA (.call (.ref fa) ⟨[.ref a], []⟩) (fun r s' => r = .ok (.ret (.bool true)) ∧ OldK s1.heap s'.heap ∧ s'.os = s1.os ∧ AllBare s'.gens) s1 := by
  have rv := vals_ints hi
  have go : ∀ H : Hp, (∀ b u, H b = some u → b = a ∧ K.lookup a = none ∧ u = .frz { cls := .type "list", data := .seq vs.toArray } (.lst (ns.map V.int))) → SqL K H a (ns.map V.int) →
      codeAny (model P w) callerA (.call (.ref fa) ⟨[.ref a], []⟩) (fun r s' => r = .ok (.ret (.bool true)) ∧ OldK s1.heap s'.heap ∧ s'.os = s1.os ∧ AllBare s'.gens) s1 := by
    intro H hH hS
    have ok : HOk P w H s1.heap := fun b u e => by
      obtain ⟨rfl, _, rfl⟩ := hH b u e
      exact ⟨ha, by rw [List.length_map]; exact hl, vs, _, rv, ha⟩
    have old : ∀ {b : Addr} {o : Obj}, s1.heap.get? b = some o → b ≠ a → (hidT s1.heap H).get? b = some o := fun {b o} e n => hidT_get e (by
      cases q : H b with
      | none => rfl
      | some u => exact absurd (hH b u q).1 n)
    have dictNe : ∀ {b : Addr} {o : Obj} {es : Array DictEntry} {ep : Nat}, s1.heap.get? b = some o → o.data = .dict es ep → b ≠ a := fun {b o es ep} e d z => by
      rw [z, ha] at e
      cases e
      cases d
    have ns' : ∀ {b : Addr} {m : Str → Option Value}, s1.heap.Ns b m → (hidT s1.heap H).Ns b m := fun {b m} ⟨o, es, ep, e, d, r⟩ => ⟨o, es, ep, old e (dictNe e d), d, r⟩
    have kb : K.In (hidT s1.heap H) := fun b o e => hidT_get (KX b o e) (by
      cases q : H b with
      | none => rfl
      | some u =>
        obtain ⟨rfl, n, _⟩ := hH b u q
        rw [n] at e
        cases e)
    have e0 : Env0 P w K mg (hidT s1.heap H) callerA [] s1 H :=
      ⟨rfl, ⟨kb, ns' hns, ⟨mb, ns' hb, hbb⟩, let ⟨mc, h1, h2⟩ := hlim; ⟨mc, ns' h1, h2⟩⟩, fun b o e => of_hidT e, Nat.le_of_eq (hidT_size _ _), trivial, fun b z => absurd (show b ∈ ([] : List Addr) from z) (by simp), ok, .of_eq hg⟩
    obtain ⟨ms, hd⟩ := hd
    have sp : spD (sgOf K mg) [false] den [.ref a] H (fun v _ => v = .bl true) (fun _ _ _ => False) := by
      refine ⟨H, [.scr ns], Same.refl _, .cons (.scr hS hl) .nil, List.nodup_nil, ?_⟩
      rw [hd]
      intro v F' H' _ dv
      cases dv with
      | bl b => rfl
    refine codeAny_mono ((F _).run callerA [] s1 H [.ref a] [.ref a] _ _ ⟨rfl, rfl⟩ (L2H.roomH_of hr) e0 (hbind s1 _) (.cons rfl .nil) sp) fun r s' h => ?_
    rcases r with e | fl
    · obtain ⟨_, _, _, _, _, _, _, _, _, _, _, _, z⟩ := h
      exact z.elim
    · cases fl with
      | next => exact h.elim
      | brk => exact h.elim
      | cont => exact h.elim
      | ret u =>
        obtain ⟨v, H', os, bare, un, ok', r', q⟩ := h
        have q' : v = .bl true := q
        subst q'
        obtain rfl : u = Value.bool true := r'
        have kept : ∀ b o, s1.heap.get? b = some o → s'.heap.get? b = some o := fun b o e => by
          cases q : H b with
          | none => exact un.keep b o e q (by intro z; exact absurd (show b ∈ ([] : List Addr) from z) (by simp)) (by simp)
          | some u =>
            obtain ⟨rfl, _, rfl⟩ := hH b u q
            obtain ⟨g, _⟩ := ok' b _ (un.frzs b _ _ q)
            rw [ha] at e
            cases e
            exact g
        exact ⟨rfl, ⟨fun b o e => .inl (kept b o e), fun b o e => ⟨o, kept b o e⟩⟩, os, bare⟩
  cases hk : K.lookup a with
  | some o =>
    have e := KX a o hk
    rw [ha] at e
    cases e
    exact go (fun _ => none) (fun b u z => nomatch z) (.inr ⟨_, vs.toArray, _, hk, rfl, rfl, rfl, by rw [List.size_toArray, hi.length]; exact hl, by simpa using rv⟩)
  | none =>
    refine go (fun b => if b = a then some (.frz { cls := .type "list", data := .seq vs.toArray } (.lst (ns.map V.int))) else none) (fun b u z => ?_) (.inl (.inr ⟨_, if_pos rfl⟩))
    by_cases hb : b = a
    · subst hb
      rw [if_pos rfl] at z
      exact ⟨rfl, hk, (Option.some.inj z).symm⟩
    · rw [if_neg hb] at z
      cases z
theorem walk_dpG {l : PySem.W.OpenLaw} {q : Program} {loose : List Str} {XP : (Str → Option Value) → Heap → Prop} {d : DefRec} {k n : Nat} {x : Str} {den : List D → DR} {ck : List Ck} {fn : List He.DefD}
    (hn : l.most = some 63) (hdf : d.params.defaults = []) (hr : Room k callerA) (hd : d.name = "law")
    (F : ∀ (w : World) (K : PySem.W.Frag) (mg : Str → Option Value) (h : Heap), K.In h → h.Ns mainGlobals mg → SaysE ck fn K → LawP l.prog w K mg k x den)
    (M : ∀ ns : List Int, ns.length ≤ 63 → (∀ z ∈ ns, Builtin.Int.intBits z ≤ 1048576) → ∃ ms, den [.scr ns] = .ok (.bl true) ms) :
    PySem.W.WalkO q loose XP (hookE n ck fn).says l.row.toRowW d [] (fun f vs => PySem.call f vs) := by
  refine Att.attach_callB hn hdf fun w s0 s1 mg mb fa o pm cd doc a vs ns G Y ho hdd hcd hmg hobj hints hlen hbits hg => ?_
  obtain ⟨K, KX, c⟩ := Y
  rw [hd] at hmg
  obtain ⟨f, fd, h1, h2, h3⟩ := F w K mg _ KX G.T.g c
  have e := hmg.symm.trans h1
  cases e
  exact law_callP KX G.T.g G.T.b G.T.builtins G.T.nolimit hg hobj hints (by rw [sizeLine_eq]; omega) hr h3 h2 (M ns hlen hbits)
end DP
namespace DP
open PySem PySem.Spec L2
theorem roomS {k : Nat} {A : Around} {v : Option Value} (r : Room k A) : L2H.RoomH k (A.mark v) := ⟨r.dp, r.un⟩
end DP
set_option Elab.async false
set_option linter.all false
set_option maxRecDepth 100000
set_option maxHeartbeats 2000000
/-! DP44: a method's answer as a new object of one's own (text.split). -/
namespace DP
open PySem PySem.Spec L2
open PyProof.Rows hiding St

def rMtN (S : Sg) (f : D → List D → Option D) : V → List V → Hp → VK → Prop := fun x xs H Q => ∃ F a ds d, Same F H ∧ DatR S F H x a ∧ Paired (fun v a => DatR S F H v a) xs ds ∧ f a ds = some d ∧ ∀ p H', H p = none → Same H H' → Own S F H' p d → Q (.ref p) H'
section
variable {X : Cx} {o e : Expr} {es : List Expr} {name : Str} {apos cpos : Pos} {T id : String}
theorem pn_mt {f : D → List D → Option D} {mo : M Op} {m : M (List Op)} (pa : PlainAttrs T) (slot : Slot T name id) (hty : typeOf (.builtin id) = pure (.type "method_descriptor")) (hm : MtR X id (rMtN (Sx X) f)) (ho : PY X o mo) (ha : PAr X (e :: es) m)
    (hbase : attributeBase o name X.env (eval o X.env) = eval o X.env := by rfl)
    (hfew : ((backTo cpos (starEach (e :: es) X.env)).all (fun x => !x.1) && (backToKw cpos (keywordEach [] X.env)).all (fun x => x.1.isSome)
      && decide ((e :: es).length + ([] : List Keyword).length + (if ([] : List Keyword).isEmpty then 0 else 1) < 30)) = true := by rfl)
    (hline : (apos.endLine == cpos.line) = true := by rfl) (hs : starEach (e :: es) X.env = (false, eval e X.env) :: starEach es X.env := by rfl) (hplain : (backTo cpos (starEach es X.env)).any (·.1) = false := by rfl) :
    PN X (.Call (.Attribute o name apos) (e :: es) [] cpos) (eMt T f mo m) := by
  refine ⟨fun c W tk => PE.imp (pe_bm pa slot hty hm (ho.run c W tk) (ha.run c W tk) hbase hfew hline hs hplain) fun σ H Q ⟨F, e0, r, k⟩ => ⟨F, e0, r, ?_⟩⟩
  refine Okx.imp (Okx.bind k) fun x e1 k1 v F1 H1 r1 g1 o1 => ?_
  cases z : look e1 x with
  | none => simp only [z] at k1; exact k1.elim
  | some a =>
    simp only [z] at k1
    by_cases ht : tyD T a = true
    · rw [if_pos ht] at k1
      refine ⟨tyV_of r1.fh (look_ok r1 o1 z) ht, F1, e1, r1, Okx.gr (Okx.bind k1) g1 fun os e2 k2 vs F2 H2 r2 g2 o2 => ?_⟩
      cases z1 : look e2 x with
      | none => simp only [z1] at k2; exact k2.elim
      | some a' =>
        cases z2 : looks e2 os with
        | none => simp only [z1, z2] at k2; exact k2.elim
        | some ds =>
          simp only [z1, z2] at k2
          cases z3 : f a' ds with
          | none => simp only [z3] at k2; exact k2.elim
          | some d =>
            simp only [z3] at k2
            exact ⟨F2, a', ds, d, r2.fh, look_ok r2 (o1.mono g2.1) z1, looks_ok r2 o2 z2, z3, fun p H' hp hh ow => k2 p F2 H' H2 r2 (g1.trans g2) hp hh (r2.fh.trans hh) ow⟩
    · rw [if_neg ht] at k1
      exact k1.elim
theorem mt_splitN : MtR X "str.split" (rMtN (Sx X) splitD) := by
  intro pins s σ H x xs v us Q I rx rv ⟨F, a, ds, d, fh, da, dx, e, q⟩
  match a, ds, da, dx, e with
  | .str a, [.str b], da, dx, e =>
    obtain ⟨w, rfl, dw⟩ := paired1 dx
    obtain ⟨rfl, h1⟩ := datR_str da
    obtain ⟨rfl, h2⟩ := datR_str dw
    have e' : (if (b.length == 0) = false ∧ a.length + 2 ≤ sizeLine then some (D.lst ((Txt.split a b).map D.str)) else none) = some d := e
    by_cases hp : (b.length == 0) = false ∧ a.length + 2 ≤ sizeLine
    · rw [if_pos hp] at e'
      cases e'
      obtain ⟨k1, k2⟩ := split_ok h1 hp.1
      exact mt_split pins s σ H _ _ v us Q I rx rv ⟨a, b, rfl, rfl, hp.1, hp.2, fun p hn => q p _ hn (same_new hn) ⟨_, upd_same, Dats.strs k1, by rw [List.length_map]; omega⟩⟩
    · rw [if_neg hp] at e'
      cases e'
end
end DP
set_option Elab.async false
set_option linter.all false
set_option maxRecDepth 100000
set_option maxHeartbeats 2000000
namespace K37
open PySem PySem.Spec L2 DP
open PyProof.Rows hiding St
def top (i : Nat) : Stmt := PySem.Challenge.pw_onceread_k37_paper_notes_whole.main.body.getD i (.Pass ⟨0, 0, 0, 0⟩)
def bt_OnceError : List (String × Bool) := []
def ow_OnceError : List (Str × Bool) := [("OnceError", true), ("BadText", true), ("BadSide", true), ("BadNote", true), ("BadLetter", true)]
def c_OnceError : Cls1 := ⟨lk bt_OnceError, lkS ow_OnceError⟩
def bt_ValueError : List (String × Bool) := []
def ow_ValueError : List (Str × Bool) := [("OnceError", true), ("BadText", true), ("BadSide", true), ("BadNote", true), ("BadLetter", true)]
def c_ValueError : Cls1 := ⟨lk bt_ValueError, lkS ow_ValueError⟩
def bt_bool : List (String × Bool) := [("int", false), ("bool", true), ("str", false), ("tuple", false), ("list", false), ("NoneType", false)]
def ow_bool : List (Str × Bool) := []
def c_bool : Cls1 := ⟨lk bt_bool, lkS ow_bool⟩
def bt_int : List (String × Bool) := [("int", true), ("bool", true), ("str", false), ("tuple", false), ("list", false), ("NoneType", false)]
def ow_int : List (Str × Bool) := []
def c_int : Cls1 := ⟨lk bt_int, lkS ow_int⟩
def bt_str : List (String × Bool) := [("int", false), ("bool", false), ("str", true), ("tuple", false), ("list", false), ("NoneType", false)]
def ow_str : List (Str × Bool) := []
def c_str : Cls1 := ⟨lk bt_str, lkS ow_str⟩
def bt_tuple : List (String × Bool) := [("int", false), ("bool", false), ("str", false), ("tuple", true), ("list", false), ("NoneType", false)]
def ow_tuple : List (Str × Bool) := []
def c_tuple : Cls1 := ⟨lk bt_tuple, lkS ow_tuple⟩
def bt_BadLetter_BadNote : List (String × Bool) := []
def ow_BadLetter_BadNote : List (Str × Bool) := [("OnceError", false), ("BadText", false), ("BadSide", false), ("BadNote", true), ("BadLetter", true)]
def c_BadLetter_BadNote : Cls1 := ⟨lk bt_BadLetter_BadNote, lkS ow_BadLetter_BadNote⟩
def us_BadLetter_BadNote (K : PySem.W.Frag) : List Value := [.ref (He.ga K "BadLetter"), .ref (He.ga K "BadNote")]
def bt_BadLetter_BadSide_BadText : List (String × Bool) := []
def ow_BadLetter_BadSide_BadText : List (Str × Bool) := [("OnceError", false), ("BadText", true), ("BadSide", true), ("BadNote", false), ("BadLetter", true)]
def c_BadLetter_BadSide_BadText : Cls1 := ⟨lk bt_BadLetter_BadSide_BadText, lkS ow_BadLetter_BadSide_BadText⟩
def us_BadLetter_BadSide_BadText (K : PySem.W.Frag) : List Value := [.ref (He.ga K "BadLetter"), .ref (He.ga K "BadSide"), .ref (He.ga K "BadText")]
def bt_BadSide_BadNote : List (String × Bool) := []
def ow_BadSide_BadNote : List (Str × Bool) := [("OnceError", false), ("BadText", false), ("BadSide", true), ("BadNote", true), ("BadLetter", false)]
def c_BadSide_BadNote : Cls1 := ⟨lk bt_BadSide_BadNote, lkS ow_BadSide_BadNote⟩
def us_BadSide_BadNote (K : PySem.W.Frag) : List Value := [.ref (He.ga K "BadSide"), .ref (He.ga K "BadNote")]
def hw_BadLetter : List (Str × Bool) := [("OnceError", false), ("BadText", false), ("BadSide", false), ("BadNote", false), ("BadLetter", true)]
def hw_BadNote : List (Str × Bool) := [("OnceError", false), ("BadText", false), ("BadSide", false), ("BadNote", true), ("BadLetter", false)]
def hw_BadSide : List (Str × Bool) := [("OnceError", false), ("BadText", false), ("BadSide", true), ("BadNote", false), ("BadLetter", false)]
def hw_OnceError : List (Str × Bool) := [("OnceError", true), ("BadText", true), ("BadSide", true), ("BadNote", true), ("BadLetter", true)]
def fc_line : List Str := ["BadNote"]
def ok_line : Str → Bool := fun n => fc_line.contains n
def fc_side : List Str := ["BadSide"]
def ok_side : Str → Bool := fun n => fc_side.contains n
def fc_letter : List Str := ["BadLetter"]
def ok_letter : Str → Bool := fun n => fc_letter.contains n
def z_SIDES : List Str := ["yes", "no", "taken", "never"]
structure Bt (K : PySem.W.Frag) (mg : Str → Option Value) : Prop where
  ValueError : mg "ValueError" = none
  all : mg "all" = none
  any : mg "any" = none
  bool : mg "bool" = none
  enumerate : mg "enumerate" = none
  int : mg "int" = none
  isinstance : mg "isinstance" = none
  len : mg "len" = none
  list : mg "list" = none
  min : mg "min" = none
  range : mg "range" = none
  repr : mg "repr" = none
  str : mg "str" = none
  tuple : mg "tuple" = none
  gDIGITS : ∃ t, mg "DIGITS" = some (.str "0123456789" t)
  gIN_LINE : ∃ t, mg "IN_LINE" = some (.int 20 t)
  gMANY : ∃ t, mg "MANY" = some (.int 1000000000000000000 t)
  gMOST_LETTER : ∃ t, mg "MOST_LETTER" = some (.int 399 t)
  gSIDES : ∃ a, mg "SIDES" = some (.ref a) ∧ ∀ H, SqT K H a (z_SIDES.map V.str)
structure Ex (P : Program) (w : World) (K : PySem.W.Frag) (mg : Str → Option Value) (base : Heap) : Prop where
  xBadText : Xc1 P w K mg base "BadText" "place"
  xBadSide : Xc1 P w K mg base "BadSide" "side"
  xBadNote : Xc1 P w K mg base "BadNote" "line"
  xBadLetter : Xc1 P w K mg base "BadLetter" "letter"
  i_OnceError : ∃ C, mg "OnceError" = some (.ref C) ∧ Cls1Ok (sgOf K mg) (.ref C) c_OnceError
  i_ValueError : Cls1Ok (sgOf K mg) (.type "ValueError") c_ValueError
  i_bool : Cls1Ok (sgOf K mg) (.type "bool") c_bool
  i_int : Cls1Ok (sgOf K mg) (.type "int") c_int
  i_str : Cls1Ok (sgOf K mg) (.type "str") c_str
  i_tuple : Cls1Ok (sgOf K mg) (.type "tuple") c_tuple
  u_BadLetter_BadNote : ClsTOk (sgOf K mg) (us_BadLetter_BadNote K) c_BadLetter_BadNote
  u_BadLetter_BadSide_BadText : ClsTOk (sgOf K mg) (us_BadLetter_BadSide_BadText K) c_BadLetter_BadSide_BadText
  u_BadSide_BadNote : ClsTOk (sgOf K mg) (us_BadSide_BadNote K) c_BadSide_BadNote
  o_BadLetter : mg "BadLetter" = some (.ref (He.ga K "BadLetter"))
  o_BadNote : mg "BadNote" = some (.ref (He.ga K "BadNote"))
  o_BadSide : mg "BadSide" = some (.ref (He.ga K "BadSide"))
  o_BadText : mg "BadText" = some (.ref (He.ga K "BadText"))
  h_BadLetter : HdF K mg "BadLetter" (lkS hw_BadLetter)
  h_BadNote : HdF K mg "BadNote" (lkS hw_BadNote)
  h_BadSide : HdF K mg "BadSide" (lkS hw_BadSide)
  h_OnceError : HdF K mg "OnceError" (lkS hw_OnceError)
  f_line : ∀ n C, ok_line n = true → (sgOf K mg).T n = some C → XcC K C ∧ PySem.W.findIn K (.ref C) "line" = some none
  f_side : ∀ n C, ok_side n = true → (sgOf K mg).T n = some C → XcC K C ∧ PySem.W.findIn K (.ref C) "side" = some none
  f_letter : ∀ n C, ok_letter n = true → (sgOf K mg).T n = some C → XcC K C ∧ PySem.W.findIn K (.ref C) "letter" = some none
variable {P : Program} {w : World} {K : PySem.W.Frag} {mg : Str → Option Value} {base : Heap}
abbrev s_digits : Stmt := top 21
def b1_digits : M Fl := (sSeq (sSet 5 (eOp modD (oVa (eBi intD (aCons (oVa (eOp addD (oVa (eOp addD (oVa (eOp mulI (oVar 5) (oVa (eCst (.int 48271))))) (oVa (eOp mulI (oVa (eCst (.int 974711))) (oVar 6))))) (oVa (eCst (.int 12345))))) aNil))) (oVa (eCst (.int 2147483647)))))
  (sSeq (sSet 7 (eOp modD (oVa (eBi intD (aCons (oVa (eOp mulI (oVar 5) (oVa (eOp addD (oVa (eOp divD (oVar 5) (oVa (eCst (.int 65537))))) (oVa (eCst (.int 3))))))) aNil))) (oVa (eCst (.int 2147483629)))))
  (sApp 2 (eOp modD (oVa (eOp divD (oVar 7) (oVa (eCst (.int 19))))) (oVa (eOp ixD (oVar 1) (oVar 6)))))))
def b2_digits : M Fl := (sSeq (sApp 2 (eOp modD (oVa (eBi intD (aCons (oVar 3) aNil))) (oVar 4)))
  (sSet 3 (eOp divD (oVa (eBi intD (aCons (oVar 3) aNil))) (oVar 4))))
def ev_digits : M Fl := (sSeq (sNew 2 (nLst aNil))
  (sSeq (sSet 3 (eBi intD (aCons (oVar 0) aNil)))
  (sSeq (sIf (bE (eOp geD (oVar 3) (oVa (eOp powD (oVa (eCst (.int 10))) (oVa (eCst (.int 18))))))) (sSeq (sSet 3 (eOp subD (oVar 3) (oVa (eOp powD (oVa (eCst (.int 10))) (oVa (eCst (.int 18)))))))
  (sSeq (sFor (iD (eVar 1)) (gN 4) b2_digits)
  (sFrz 2 (sRet (eVar 2))))) sNil)
  (sSeq (sSet 5 (eOp modD (oVa (eBi intD (aCons (oVar 3) aNil))) (oVa (eCst (.int 2147483629)))))
  (sSeq (sFor (iRg1 (aCons (oVa (eBi lenD (aCons (oVar 1) aNil))) aNil)) (gN 6) b1_digits)
  (sFrz 2 (sRet (eVar 2))))))))
def den_digits : List D → DR := runD [false, false] 8 ev_digits
theorem sc_digits : FnScope ["_law_cell_here", "_law_sizes", "_law_row", "_law_rest", "_law_size", "_law_seed", "_law_k", "_law_twice"] ["_law_cell_here", "_law_sizes"] (defScope s_digits) := ⟨rfl, rfl, rfl, by decide +kernel, rfl, by decide +kernel, by decide +kernel⟩
set_option maxHeartbeats 8000000 in
theorem ok_digits (T : TopFn K mg "_law_digits" s_digits) (B : Bt K mg) : DefOk P w K mg base 1 "_law_digits" [false, false] den_digits := by
  refine defOk_mk (N := ["_law_cell_here", "_law_sizes", "_law_row", "_law_rest", "_law_size", "_law_seed", "_law_k", "_law_twice"]) (ps := ["_law_cell_here", "_law_sizes"]) T sc_digits rfl (by decide) (fun _ _ _ _ _ _ us hl => match us, hl with | [_, _], _ => rfl) fun f cdv A outer s H E0 hr => ?_
  exact (pd_cons (pd_new 2 sc_digits.nd (pn_lst pr_nil))
  (pd_cons (pd_set 3 sc_digits.nd (px_ty d_int rfl B.int (by decide +kernel) (pr_cons (py_var 0) pr_nil)))
  (pd_cons (pd_if (pb_cmp d_ge (py_var 3) (py_of (px_op d_pow (py_of px_int) (py_of px_int))) (nomark _)) (pd_cons (pd_set 3 sc_digits.nd (px_op d_sub (py_var 3) (py_of (px_op d_pow (py_of px_int) (py_of px_int)))))
  (pd_cons (pd_for rfl (pi_seq (px_var 1)) (pgd_name 4 sc_digits.nd) (pd_cons (pd_app 2 (px_op d_mod (py_of (px_ty d_int rfl B.int (by decide +kernel) (pr_cons (py_var 3) pr_nil))) (py_var 4)))
  (pd_one (pd_set 3 sc_digits.nd (px_op d_div (py_of (px_ty d_int rfl B.int (by decide +kernel) (pr_cons (py_var 3) pr_nil))) (py_var 4))))))
  (pd_one (pd_frz 2 (pd_ret (px_var 2)))))) pd_nil)
  (pd_cons (pd_set 5 sc_digits.nd (px_op d_mod (py_of (px_ty d_int rfl B.int (by decide +kernel) (pr_cons (py_var 3) pr_nil))) (py_of px_int)))
  (pd_cons (pd_for rfl (pi_rg1 (pr_cons (py_of (px_bi d_len rfl B.len (by decide +kernel) (pr_cons (py_var 1) pr_nil))) pr_nil) B.range) (pgd_name 6 sc_digits.nd) (pd_cons (pd_set 5 sc_digits.nd (px_op d_mod (py_of (px_ty d_int rfl B.int (by decide +kernel) (pr_cons (py_of (px_op d_add (py_of (px_op d_add (py_of (px_op d_mulI (py_var 5) (py_of px_int))) (py_of (px_op d_mulI (py_of px_int) (py_var 6))))) (py_of px_int))) pr_nil))) (py_of px_int)))
  (pd_cons (pd_set 7 sc_digits.nd (px_op d_mod (py_of (px_ty d_int rfl B.int (by decide +kernel) (pr_cons (py_of (px_op d_mulI (py_var 5) (py_of (px_op d_add (py_of (px_op d_div (py_var 5) (py_of px_int))) (py_of px_int))))) pr_nil))) (py_of px_int)))
  (pd_one (pd_app 2 (px_op d_mod (py_of (px_op d_div (py_var 7) (py_of px_int))) (py_of (px_ix d_ix (py_var 1) (py_var 6)))))))))
  (pd_one (pd_frz 2 (pd_ret (px_var 2)))))))))
abbrev s_written : Stmt := top 23
def b1_written : M Fl := (sSet 2 (eOp addD (oVa (eOp addD (oVar 2) (oVa (eOp ixD (oVa (nLst (aCons (oVa (eCst (.str "\n"))) (aCons (oVa (eCst (.str " "))) aNil)))) (oVa (eBi intD (aCons (oVa (eOp gtD (oVa (eOp modD (oVar 3) (oVa (eCst (.int 20))))) (oVa (eCst (.int 0))))) aNil))))))) (oVa (eBi strD (aCons (oVa (eOp ixD (oVar 1) (oVar 3))) aNil)))))
def ev_written : M Fl := (sSeq (sSet 2 (eOp addD (oVa (eOp addD (oVa (eOp addD (oVa (eCst (.str "paper "))) (oVar 0))) (oVa (eCst (.str " "))))) (oVa (eBi strD (aCons (oVa (eBi lenD (aCons (oVar 1) aNil))) aNil)))))
  (sSeq (sFor (iRg1 (aCons (oVa (eBi lenD (aCons (oVar 1) aNil))) aNil)) (gN 3) b1_written)
  (sRet (eVar 2))))
def den_written : List D → DR := runD [false, false] 4 ev_written
theorem sc_written : FnScope ["_law_word", "_law_letters", "_law_text", "_law_k"] ["_law_word", "_law_letters"] (defScope s_written) := ⟨rfl, rfl, rfl, by decide +kernel, rfl, by decide +kernel, by decide +kernel⟩
set_option maxHeartbeats 8000000 in
theorem ok_written (T : TopFn K mg "_law_written" s_written) (B : Bt K mg) : DefOk P w K mg base 1 "_law_written" [false, false] den_written := by
  refine defOk_mk (N := ["_law_word", "_law_letters", "_law_text", "_law_k"]) (ps := ["_law_word", "_law_letters"]) T sc_written rfl (by decide) (fun _ _ _ _ _ _ us hl => match us, hl with | [_, _], _ => rfl) fun f cdv A outer s H E0 hr => ?_
  exact (pd_cons (pd_set 2 sc_written.nd (px_op d_add (py_of (px_op d_add (py_of (px_op d_add (py_of px_str) (py_var 0))) (py_of px_str))) (py_of (px_ty d_str rfl B.str (by decide +kernel) (pr_cons (py_of (px_bi d_len rfl B.len (by decide +kernel) (pr_cons (py_var 1) pr_nil))) pr_nil)))))
  (pd_cons (pd_for rfl (pi_rg1 (pr_cons (py_of (px_bi d_len rfl B.len (by decide +kernel) (pr_cons (py_var 1) pr_nil))) pr_nil) B.range) (pgd_name 3 sc_written.nd) (pd_one (pd_set 2 sc_written.nd (px_op d_add (py_of (px_op d_add (py_var 2) (py_of (px_ix d_ix (py_of (px_new (pn_lst (pr_cons (py_of px_str) (pr_cons (py_of px_str) pr_nil))))) (py_of (px_ty d_int rfl B.int (by decide +kernel) (pr_cons (py_of (px_cmp d_gt (py_of (px_op d_mod (py_var 3) (py_of px_int))) (py_of px_int) (nomark _))) pr_nil))))))) (py_of (px_ty d_str rfl B.str (by decide +kernel) (pr_cons (py_of (px_ix d_ix (py_var 1) (py_var 3))) pr_nil)))))))
  (pd_one (pd_ret (px_var 2)))))
abbrev s_write_paper : Stmt := top 15
def y1_write_paper : M D := (eBi strD (aCons (oVar 2) aNil))
def b2_write_paper : M Fl := (sApp 3 (eJoin " " (oVa (nLc (iD (eSl (oVar 1) (hSo (eVar 4)) (hSo (eOp addD (oVar 4) (oVa (eCst (.int 20))))))) [2] (gN 2) bYes y1_write_paper))))
def b3_write_paper : M Fl := (sIf (bOr (bNot (bE (eIs c_int (oVar 2)))) (bOr (bE (eIs c_bool (oVar 2))) (bNot (bE (eChain leD leD (oVa (eCst (.int 0))) (oVar 2) (oVa (eCst (.int 399)))))))) (sRaise1 "BadLetter" "letter" (eVar 2)) sNil)
def ev_write_paper : M Fl := (sSeq (sIf (bE (eOp (inD true) (oVar 0) (oVa (eCst (.tup (z_SIDES.map D.str)))))) (sRaise1 "BadSide" "side" (eVar 0)) sNil)
  (sSeq (sFor (iD (eVar 1)) (gN 2) b3_write_paper)
  (sSeq (sNew 3 (nLst (aCons (oVa (eJs ((eCst (.str "paper ")) :: ((eFm (eVar 0)) :: ((eCst (.str " ")) :: ((eFm (eBi lenD (aCons (oVar 1) aNil))) :: [])))) Str.empty)) aNil)))
  (sSeq (sFor (iRg3 (aCons (oVa (eCst (.int 0))) (aCons (oVa (eBi lenD (aCons (oVar 1) aNil))) (aCons (oVa (eCst (.int 20))) aNil)))) (gN 4) b2_write_paper)
  (sRet (eJoin "\n" (oVar 3)))))))
def den_write_paper : List D → DR := runD [false, false] 5 ev_write_paper
theorem sc_write_paper : FnScope ["word", "letters", "letter", "lines", "start"] ["word", "letters"] (defScope s_write_paper) := ⟨rfl, rfl, rfl, by decide +kernel, rfl, by decide +kernel, by decide +kernel⟩
set_option maxHeartbeats 8000000 in
theorem ok_write_paper (T : TopFn K mg "write_paper" s_write_paper) (B : Bt K mg) (E : Ex P w K mg base) : DefOk P w K mg base 3 "write_paper" [false, false] den_write_paper := by
  refine defOk_mk (N := ["word", "letters", "letter", "lines", "start"]) (ps := ["word", "letters"]) T sc_write_paper rfl (by decide) (fun _ _ _ _ _ _ us hl => match us, hl with | [_, _], _ => rfl) fun f cdv A outer s H E0 hr => ?_
  refine (pd_cons (pd_if (pb_cmp (d_notIn (hu65 hr)) (py_var 0) (py_of (px_globT (zs := z_SIDES) B.gSIDES (by decide +kernel) (by decide))) rfl) (pd_one (pd_raise1 (k := 0) rfl E.xBadSide (hr.mono (by decide)) (px_var 0))) pd_nil)
  (pd_cons (pd_for rfl (pi_seq (px_var 1)) (pgd_name 2 sc_write_paper.nd) (pd_one (pd_if (pb_w (pbw_or (pb_not (pb_val (px_isT (T := "int") E.i_int (py_var 2) B.int B.isinstance (by decide +kernel)))) (pbw_or (pb_val (px_isT (T := "bool") E.i_bool (py_var 2) B.bool B.isinstance (by decide +kernel))) (pbw_or1 (pb_not (pb_chain d_le d_le (py_of px_int) (py_var 2) (py_of (px_globI B.gMOST_LETTER.choose_spec)))))))) (pd_one (pd_raise1 (k := 0) rfl E.xBadLetter (hr.mono (by decide)) (px_var 2))) pd_nil)))
  (pd_cons (pd_new 3 sc_write_paper.nd (pn_lst (pr_cons (py_of (px_js (.cons px_str (.cons (px_fm (px_var 0)) (.cons px_str (.cons (px_fm (px_bi d_len rfl B.len (by decide +kernel) (pr_cons (py_var 1) pr_nil))) .nil)))))) pr_nil)))
  (pd_cons (pd_for rfl (pi_rg3 (pr_cons (py_of px_int) (pr_cons (py_of (px_bi d_len rfl B.len (by decide +kernel) (pr_cons (py_var 1) pr_nil))) (pr_cons (py_of (px_globI B.gIN_LINE.choose_spec)) pr_nil))) B.range) (pgd_name 4 sc_write_paper.nd) (pd_one (pd_app 3 (px_join (py_of (px_new ?c1))))))
  (pd_one (pd_ret (px_join (py_var 3))))))))
  case c1 => exact pn_lc (own := [("letter", 2)]) sc_write_paper.nd rfl (pi_seq (px_slice (py_var 1) (po_so (px_var 4)) (po_so (px_op d_add (py_var 4) (py_of (px_globI B.gIN_LINE.choose_spec)))))) (by exact blkOk_by (N := ["word", "letters", "letter", "lines", "start"]) (sc := defScope s_write_paper) (by decide +kernel)) (fun _ _ _ _ _ => (pgd_name 2 sc_write_paper.nd)) (fun _ _ _ _ _ => ptd_nil) (fun _ _ _ _ _ => (px_ty d_str rfl B.str (by decide +kernel) (pr_cons (py_var 2) pr_nil)))
abbrev s_whole : Stmt := top 19
def ev_whole : M Fl := (sRet (eAnd (eIs c_int (oVar 0)) (eB (bNot (bE (eIs c_bool (oVar 0)))))))
def den_whole : List D → DR := runD [false] 1 ev_whole
theorem sc_whole : FnScope ["_law_value"] ["_law_value"] (defScope s_whole) := ⟨rfl, rfl, rfl, by decide +kernel, rfl, by decide +kernel, by decide +kernel⟩
set_option maxHeartbeats 8000000 in
theorem ok_whole (T : TopFn K mg "_law_whole" s_whole) (B : Bt K mg) (E : Ex P w K mg base) : DefP GT P w K mg base 1 "_law_whole" [false] den_whole := by
  refine defT_mk (N := ["_law_value"]) (ps := ["_law_value"]) T sc_whole rfl (by decide) (fun _ _ _ _ _ _ us hl => match us, hl with | [_], _ => rfl) fun f cdv A outer s H E0 hr => ?_
  exact (pd_one (pd_ret (px_and (px_isT (T := "int") E.i_int (py_var 0) B.int B.isinstance (by decide +kernel)) (px_one (px_not (px_isT (T := "bool") E.i_bool (py_var 0) B.bool B.isinstance (by decide +kernel)))))))
abbrev s_alike : Stmt := top 22
def b1_alike (slf : List D → DR) : M Fl := (sIf (bNot (bE (eCall [false, false] slf (aCons (oVa (eOp ixD (oVar 0) (oVar 2))) (aCons (oVa (eOp ixD (oVar 1) (oVar 2))) aNil))))) (sRet (eCst (.bl false))) sNil)
def ev_alike (slf : List D → DR) : M Fl := (sSeq (sIf (bE (eIs c_tuple (oVar 1))) (sSeq (sIf (bOr (bNot (bE (eIs c_tuple (oVar 0)))) (bE (eOp neD (oVa (eBi lenD (aCons (oVar 0) aNil))) (oVa (eBi lenD (aCons (oVar 1) aNil)))))) (sRet (eCst (.bl false))) sNil)
  (sSeq (sFor (iRg1 (aCons (oVa (eBi lenD (aCons (oVar 1) aNil))) aNil)) (gN 2) (b1_alike slf))
  (sRet (eCst (.bl true))))) sNil)
  (sSeq (sIf (bE (eOp isND (oVar 1) (oVa (eCst .non)))) (sRet (eOp isND (oVar 0) (oVa (eCst .non)))) sNil)
  (sSeq (sIf (bE (eIs c_bool (oVar 1))) (sRet (eAnd (eIs c_bool (oVar 0)) (eOp eqD (oVar 0) (oVar 1)))) sNil)
  (sSeq (sIf (bE (eIs c_str (oVar 1))) (sRet (eAnd (eIs c_str (oVar 0)) (eOp eqD (oVar 0) (oVar 1)))) sNil)
  (sRet (eAnd (eCall [false] den_whole (aCons (oVa (eVar 0)) aNil)) (eOp eqD (oVar 0) (oVar 1))))))))
def den_alike : Nat → List D → DR := recD [false, false] 3 ev_alike
theorem sc_alike : FnScope ["_law_value", "_law_due", "_law_k"] ["_law_value", "_law_due"] (defScope s_alike) := ⟨rfl, rfl, rfl, by decide +kernel, rfl, by decide +kernel, by decide +kernel⟩
set_option maxHeartbeats 8000000 in
theorem ok_alike (T : TopFn K mg "_law_alike" s_alike) (B : Bt K mg) (E : Ex P w K mg base) (G_whole : DefP GT P w K mg base 1 "_law_whole" [false] den_whole) : ∀ n, DefOk P w K mg base (1 + 1 + n) "_law_alike" [false, false] (den_alike n) := by
  refine defOk_rec (N := ["_law_value", "_law_due", "_law_k"]) (ps := ["_law_value", "_law_due"]) 1 T sc_alike rfl (by decide) (fun _ _ _ _ _ _ us hl => match us, hl with | [_, _], _ => rfl) fun j slf hj GS f cdv A outer s H E0 hr => ?_
  exact (pd_cons (pd_if (pb_val (px_isT (T := "tuple") E.i_tuple (py_var 1) B.tuple B.isinstance (by decide +kernel))) (pd_cons (pd_if (pb_w (pbw_or (pb_not (pb_val (px_isT (T := "tuple") E.i_tuple (py_var 0) B.tuple B.isinstance (by decide +kernel)))) (pbw_or1 (pb_cmp (d_ne (hu64 hr)) (py_of (px_bi d_len rfl B.len (by decide +kernel) (pr_cons (py_var 0) pr_nil))) (py_of (px_bi d_len rfl B.len (by decide +kernel) (pr_cons (py_var 1) pr_nil))) (nomark _))))) (pd_one (pd_ret px_bl)) pd_nil)
  (pd_cons (pd_for rfl (pi_rg1 (pr_cons (py_of (px_bi d_len rfl B.len (by decide +kernel) (pr_cons (py_var 1) pr_nil))) pr_nil) B.range) (pgd_name 2 sc_alike.nd) (pd_one (pd_if (pb_not (pb_val (px_call (by exact GS) (by exact hr) (pr_cons (py_of (px_ix d_ix (py_var 0) (py_var 2))) (pr_cons (py_of (px_ix d_ix (py_var 1) (py_var 2))) pr_nil))))) (pd_one (pd_ret px_bl)) pd_nil)))
  (pd_one (pd_ret px_bl)))) pd_nil)
  (pd_cons (pd_if (pb_cmp d_isN (py_var 1) (py_of px_non) (nomark _)) (pd_one (pd_ret (px_cmp d_isN (py_var 0) (py_of px_non) (nomark _)))) pd_nil)
  (pd_cons (pd_if (pb_val (px_isT (T := "bool") E.i_bool (py_var 1) B.bool B.isinstance (by decide +kernel))) (pd_one (pd_ret (px_and (px_isT (T := "bool") E.i_bool (py_var 0) B.bool B.isinstance (by decide +kernel)) (px_one (px_cmp (d_eq (hu64 hr)) (py_var 0) (py_var 1) (nomark _)))))) pd_nil)
  (pd_cons (pd_if (pb_val (px_isT (T := "str") E.i_str (py_var 1) B.str B.isinstance (by decide +kernel))) (pd_one (pd_ret (px_and (px_isT (T := "str") E.i_str (py_var 0) B.str B.isinstance (by decide +kernel)) (px_one (px_cmp (d_eq (hu64 hr)) (py_var 0) (py_var 1) (nomark _)))))) pd_nil)
  (pd_one (pd_ret (px_and (px_callP (by exact G_whole) (by exact trivial) (by exact L2H.roomH_of (hr.mono (Nat.le_trans (by decide) hj))) (pr_cons (py_of (px_var 0)) pr_nil)) (px_one (px_cmp (d_eq (hu64 hr)) (py_var 0) (py_var 1) (nomark _))))))))))
abbrev s_writes_number : Stmt := top 8
def y1_writes_number : M D := (eOp (inD false) (oVar 1) (oVa (eCst (.str "0123456789"))))
def ev_writes_number : M Fl := (sSeq (sIf (bOr (bE (eOp eqD (oVar 0) (oVa (eCst (.str ""))))) (bAnd (bE (eOp eqD (oVa (eOp ixD (oVar 0) (oVa (eCst (.int 0))))) (oVa (eCst (.str "0"))))) (bE (eOp neD (oVar 0) (oVa (eCst (.str "0"))))))) (sRet (eCst (.bl false))) sNil)
  (sRet (eBi allD (aCons (oVa (nLc (iD (eVar 0)) [1] (gN 1) bYes y1_writes_number)) aNil))))
def den_writes_number : List D → DR := runD [false] 2 ev_writes_number
theorem sc_writes_number : FnScope ["word", "sign"] ["word"] (defScope s_writes_number) := ⟨rfl, rfl, rfl, by decide +kernel, rfl, by decide +kernel, by decide +kernel⟩
set_option maxHeartbeats 8000000 in
theorem ok_writes_number (T : TopFn K mg "writes_number" s_writes_number) (B : Bt K mg) : DefOk P w K mg base 1 "writes_number" [false] den_writes_number := by
  refine defOk_mk (N := ["word", "sign"]) (ps := ["word"]) T sc_writes_number rfl (by decide) (fun _ _ _ _ _ _ us hl => match us, hl with | [_], _ => rfl) fun f cdv A outer s H E0 hr => ?_
  refine (pd_cons (pd_if (pb_w (pbw_or (pb_cmp (d_eq (hu64 hr)) (py_var 0) (py_of px_str) (nomark _)) (pbw_or1 (pb_w (pbw_and (pb_cmp (d_eq (hu64 hr)) (py_of (px_ix d_ix (py_var 0) (py_of px_int))) (py_of px_str) (nomark _)) (pbw_and1 (pb_cmp (d_ne (hu64 hr)) (py_var 0) (py_of px_str) (nomark _)))))))) (pd_one (pd_ret px_bl)) pd_nil)
  (pd_one (pd_ret (px_bi (by exact d_all rfl) rfl B.all (by decide +kernel) (pr_cons (py_of (px_new ?c1)) pr_nil)))))
  case c1 => exact pn_lc (own := [("sign", 1)]) sc_writes_number.nd rfl (pi_seq (px_var 0)) (by exact blkOk_by (N := ["word", "sign"]) (sc := defScope s_writes_number) (by decide +kernel)) (fun _ _ _ _ _ => (pgd_name 1 sc_writes_number.nd)) (fun _ _ _ _ _ => ptd_nil) (fun _ _ _ _ _ => (px_cmp (d_in (hu65 hr)) (py_var 1) (py_of (px_globS B.gDIGITS.choose_spec ⟨by decide +kernel, by decide +kernel⟩)) rfl))
abbrev s_read_first : Stmt := top 16
def ev_read_first : M Fl := (sSeq (sSet 1 (eMt "str" splitD (oVar 0) (aCons (oVa (eCst (.str " "))) aNil)))
  (sSeq (sIf (bOr (bE (eOp neD (oVa (eBi lenD (aCons (oVar 1) aNil))) (oVa (eCst (.int 3))))) (bOr (bE (eOp neD (oVa (eOp ixD (oVar 1) (oVa (eCst (.int 0))))) (oVa (eCst (.str "paper"))))) (bOr (bE (eOp (inD true) (oVa (eOp ixD (oVar 1) (oVa (eCst (.int 1))))) (oVa (eCst (.tup (z_SIDES.map D.str)))))) (bNot (bE (eCall [false] den_writes_number (aCons (oVa (eOp ixD (oVar 1) (oVa (eCst (.int 2))))) aNil))))))) (sRaise1 "BadNote" "line" (eCst (.int 1))) sNil)
  (sSeq (sIf (bE (eOp gtD (oVa (eBi lenD (aCons (oVa (eOp ixD (oVar 1) (oVa (eCst (.int 2))))) aNil))) (oVa (eCst (.int 18))))) (sRet (eTup (aCons (oVa (eOp ixD (oVar 1) (oVa (eCst (.int 1))))) (aCons (oVa (eCst (.int 1000000000000000000))) aNil)))) sNil)
  (sRet (eTup (aCons (oVa (eOp ixD (oVar 1) (oVa (eCst (.int 1))))) (aCons (oVa (eBi intSD (aCons (oVa (eOp ixD (oVar 1) (oVa (eCst (.int 2))))) aNil))) aNil)))))))
def den_read_first : List D → DR := runD [false] 2 ev_read_first
theorem sc_read_first : FnScope ["line", "pieces"] ["line"] (defScope s_read_first) := ⟨rfl, rfl, rfl, by decide +kernel, rfl, by decide +kernel, by decide +kernel⟩
set_option maxHeartbeats 8000000 in
theorem ok_read_first (T : TopFn K mg "read_first" s_read_first) (B : Bt K mg) (E : Ex P w K mg base) (G_writes_number : DefOk P w K mg base 1 "writes_number" [false] den_writes_number) : DefOk P w K mg base 3 "read_first" [false] den_read_first := by
  refine defOk_mk (N := ["line", "pieces"]) (ps := ["line"]) T sc_read_first rfl (by decide) (fun _ _ _ _ _ _ us hl => match us, hl with | [_], _ => rfl) fun f cdv A outer s H E0 hr => ?_
  exact (pd_cons (pd_set 1 sc_read_first.nd (px_mt PySem.F.plainAttrs_str PySem.F.slot_str_split PySem.F.type_str_split (by exact mt_split') (py_var 0) (pr_cons (py_of px_str) pr_nil)))
  (pd_cons (pd_if (pb_w (pbw_or (pb_cmp (d_ne (hu64 hr)) (py_of (px_bi d_len rfl B.len (by decide +kernel) (pr_cons (py_var 1) pr_nil))) (py_of px_int) (nomark _)) (pbw_or (pb_cmp (d_ne (hu64 hr)) (py_of (px_ix d_ix (py_var 1) (py_of px_int))) (py_of px_str) (nomark _)) (pbw_or (pb_cmp (d_notIn (hu65 hr)) (py_of (px_ix d_ix (py_var 1) (py_of px_int))) (py_of (px_globT (zs := z_SIDES) B.gSIDES (by decide +kernel) (by decide))) rfl) (pbw_or1 (pb_not (pb_val (px_call (by exact G_writes_number) (by exact hr.mono (by decide)) (pr_cons (py_of (px_ix d_ix (py_var 1) (py_of px_int))) pr_nil))))))))) (pd_one (pd_raise1 (k := 0) rfl E.xBadNote (hr.mono (by decide)) px_int)) pd_nil)
  (pd_cons (pd_if (pb_cmp d_gt (py_of (px_bi d_len rfl B.len (by decide +kernel) (pr_cons (py_of (px_ix d_ix (py_var 1) (py_of px_int))) pr_nil))) (py_of px_int) (nomark _)) (pd_one (pd_ret (px_tup (pr_cons (py_of (px_ix d_ix (py_var 1) (py_of px_int))) (pr_cons (py_of (px_globI B.gMANY.choose_spec)) pr_nil))))) pd_nil)
  (pd_one (pd_ret (px_tup (pr_cons (py_of (px_ix d_ix (py_var 1) (py_of px_int))) (pr_cons (py_of (px_ty d_intS rfl B.int (by decide +kernel) (pr_cons (py_of (px_ix d_ix (py_var 1) (py_of px_int))) pr_nil))) pr_nil))))))))
abbrev s_read_number : Stmt := top 9
def ev_read_number : M Fl := (sSeq (sIf (bOr (bNot (bE (eCall [false] den_writes_number (aCons (oVa (eVar 0)) aNil)))) (bE (eOp gtD (oVa (eBi lenD (aCons (oVar 0) aNil))) (oVa (eBi lenD (aCons (oVa (eBi strD (aCons (oVar 1) aNil))) aNil)))))) (sRet (eCst .non)) sNil)
  (sSeq (sSet 2 (eBi intSD (aCons (oVar 0) aNil)))
  (sRet (eIf (bE (eOp leD (oVar 2) (oVar 1))) (eVar 2) (eCst .non)))))
def den_read_number : List D → DR := runD [false, false] 3 ev_read_number
theorem sc_read_number : FnScope ["word", "most", "number"] ["word", "most"] (defScope s_read_number) := ⟨rfl, rfl, rfl, by decide +kernel, rfl, by decide +kernel, by decide +kernel⟩
set_option maxHeartbeats 8000000 in
theorem ok_read_number (T : TopFn K mg "read_number" s_read_number) (B : Bt K mg) (G_writes_number : DefOk P w K mg base 1 "writes_number" [false] den_writes_number) : DefOk P w K mg base 2 "read_number" [false, false] den_read_number := by
  refine defOk_mk (N := ["word", "most", "number"]) (ps := ["word", "most"]) T sc_read_number rfl (by decide) (fun _ _ _ _ _ _ us hl => match us, hl with | [_, _], _ => rfl) fun f cdv A outer s H E0 hr => ?_
  exact (pd_cons (pd_if (pb_w (pbw_or (pb_not (pb_val (px_call (by exact G_writes_number) (by exact hr.mono (by decide)) (pr_cons (py_of (px_var 0)) pr_nil)))) (pbw_or1 (pb_cmp d_gt (py_of (px_bi d_len rfl B.len (by decide +kernel) (pr_cons (py_var 0) pr_nil))) (py_of (px_bi d_len rfl B.len (by decide +kernel) (pr_cons (py_of (px_ty d_str rfl B.str (by decide +kernel) (pr_cons (py_var 1) pr_nil))) pr_nil))) (nomark _))))) (pd_one (pd_ret px_non)) pd_nil)
  (pd_cons (pd_set 2 sc_read_number.nd (px_ty d_intS rfl B.int (by decide +kernel) (pr_cons (py_var 0) pr_nil)))
  (pd_one (pd_ret (px_if (pb_cmp d_le (py_var 2) (py_var 1) (nomark _)) (px_var 2) px_non)))))
abbrev s_read_paper : Stmt := top 17
def y1_read_paper : M D := (eOp isND (oVar 9) (oVa (eCst .non)))
def y2_read_paper : M D := (eCall [false, false] den_read_number (aCons (oVa (eVar 8)) (aCons (oVa (eCst (.int 399))) aNil)))
def b3_read_paper : M Fl := (sSeq (sSet 7 (nLc (iD (eMt "str" splitD (oVar 6) (aCons (oVa (eCst (.str " "))) aNil))) [8] (gN 8) bYes y2_read_paper))
  (sSeq (sIf (bOr (bE (eOp neD (oVa (eBi lenD (aCons (oVar 7) aNil))) (oVa (eBi minD (aCons (oVa (eCst (.int 20))) (aCons (oVa (eOp subD (oVar 3) (oVa (eBi lenD (aCons (oVar 4) aNil))))) aNil)))))) (bE (eBi anyD (aCons (oVa (nLc (iD (eVar 7)) [9] (gN 9) bYes y1_read_paper)) aNil)))) (sRaise1 "BadNote" "line" (eVar 5)) sNil)
  (sExt 4 (eVar 7))))
def ev_read_paper : M Fl := (sSeq (sSet 1 (eMt "str" splitD (oVar 0) (aCons (oVa (eCst (.str "\n"))) aNil)))
  (sSeq (sSetT (gT [2, 3]) (eCall [false] den_read_first (aCons (oVa (eOp ixD (oVar 1) (oVa (eCst (.int 0))))) aNil)))
  (sSeq (sNew 4 (nLst aNil))
  (sSeq (sFor (iEnK 2 (aCons (oVa (eSl (oVar 1) (hSo (eCst (.int 1))) hNo)) aNil)) (gT [5, 6]) b3_read_paper)
  (sSeq (sIf (bE (eOp ltD (oVa (eBi lenD (aCons (oVar 4) aNil))) (oVar 3))) (sRaise1 "BadNote" "line" (eOp addD (oVa (eBi lenD (aCons (oVar 1) aNil))) (oVa (eCst (.int 1))))) sNil)
  (sRet (eTup (aCons (oVa (eVar 2)) (aCons (oVa (eBi tupD (aCons (oVar 4) aNil))) aNil)))))))))
def den_read_paper : List D → DR := runD [false] 10 ev_read_paper
theorem sc_read_paper : FnScope ["text", "lines", "word", "many", "letters", "number", "line", "row", "piece", "letter"] ["text"] (defScope s_read_paper) := ⟨rfl, rfl, rfl, by decide +kernel, rfl, by decide +kernel, by decide +kernel⟩
set_option maxHeartbeats 8000000 in
theorem ok_read_paper (T : TopFn K mg "read_paper" s_read_paper) (B : Bt K mg) (E : Ex P w K mg base) (G_read_number : DefOk P w K mg base 2 "read_number" [false, false] den_read_number) (G_read_first : DefOk P w K mg base 3 "read_first" [false] den_read_first) : DefOk P w K mg base 4 "read_paper" [false] den_read_paper := by
  refine defOk_mk (N := ["text", "lines", "word", "many", "letters", "number", "line", "row", "piece", "letter"]) (ps := ["text"]) T sc_read_paper rfl (by decide) (fun _ _ _ _ _ _ us hl => match us, hl with | [_], _ => rfl) fun f cdv A outer s H E0 hr => ?_
  refine (pd_cons (pd_set 1 sc_read_paper.nd (px_mt PySem.F.plainAttrs_str PySem.F.slot_str_split PySem.F.type_str_split (by exact mt_split') (py_var 0) (pr_cons (py_of px_str) pr_nil)))
  (pd_cons (pd_asg (px_call (by exact G_read_first) (by exact hr.mono (by decide)) (pr_cons (py_of (px_ix d_ix (py_var 1) (py_of px_int))) pr_nil)) (pgd_tup rfl (pgds_cons (pgd_name 2 sc_read_paper.nd) (pgds_cons (pgd_name 3 sc_read_paper.nd) pgds_nil))))
  (pd_cons (pd_new 4 sc_read_paper.nd (pn_lst pr_nil))
  (pd_cons (pd_for rfl (pi_enK (pr_cons (py_of (px_slice (py_var 1) (po_so px_int) po_no)) pr_nil) B.enumerate) (pgd_tup rfl (pgds_cons (pgd_name 5 sc_read_paper.nd) (pgds_cons (pgd_name 6 sc_read_paper.nd) pgds_nil))) (pd_cons (pd_lcS (own := [("piece", 8)]) 7 sc_read_paper.nd rfl (pi_seq (px_mt PySem.F.plainAttrs_str PySem.F.slot_str_split PySem.F.type_str_split (by exact mt_split') (py_var 6) (pr_cons (py_of px_str) pr_nil))) (by exact blkOk_by (N := ["text", "lines", "word", "many", "letters", "number", "line", "row", "piece", "letter"]) (sc := defScope s_read_paper) (by decide +kernel)) (sw_true rfl rfl rfl (by decide +kernel)) (fun _ _ _ _ _ => (pgd_name 8 sc_read_paper.nd)) (fun _ _ _ _ _ => ptd_nil) (fun _ _ _ _ _ => (px_call (by exact G_read_number) (by exact hr.mono (by decide)) (pr_cons (py_of (px_var 8)) (pr_cons (py_of (px_globI B.gMOST_LETTER.choose_spec)) pr_nil)))))
  (pd_cons (pd_if (pb_w (pbw_or (pb_cmp (d_ne (hu64 hr)) (py_of (px_bi d_len rfl B.len (by decide +kernel) (pr_cons (py_var 7) pr_nil))) (py_of (px_bi (by exact d_min rfl) rfl B.min (by decide +kernel) (pr_cons (py_of (px_globI B.gIN_LINE.choose_spec)) (pr_cons (py_of (px_op d_sub (py_var 3) (py_of (px_bi d_len rfl B.len (by decide +kernel) (pr_cons (py_var 4) pr_nil))))) pr_nil)))) (nomark _)) (pbw_or1 (pb_val (px_bi (by exact d_any rfl) rfl B.any (by decide +kernel) (pr_cons (py_of (px_new ?c1)) pr_nil)))))) (pd_one (pd_raise1 (k := 0) rfl E.xBadNote (hr.mono (by decide)) (px_var 5))) pd_nil)
  (pd_one (pd_ext 4 (px_var 7))))))
  (pd_cons (pd_if (pb_cmp d_lt (py_of (px_bi d_len rfl B.len (by decide +kernel) (pr_cons (py_var 4) pr_nil))) (py_var 3) (nomark _)) (pd_one (pd_raise1 (k := 0) rfl E.xBadNote (hr.mono (by decide)) (px_op d_add (py_of (px_bi d_len rfl B.len (by decide +kernel) (pr_cons (py_var 1) pr_nil))) (py_of px_int)))) pd_nil)
  (pd_one (pd_ret (px_tup (pr_cons (py_of (px_var 2)) (pr_cons (py_of (px_ty d_tup rfl B.tuple (by decide +kernel) (pr_cons (py_var 4) pr_nil))) pr_nil))))))))))
  case c1 => exact pn_lc (own := [("letter", 9)]) sc_read_paper.nd rfl (pi_seq (px_var 7)) (by exact blkOk_by (N := ["text", "lines", "word", "many", "letters", "number", "line", "row", "piece", "letter"]) (sc := defScope s_read_paper) (by decide +kernel)) (fun _ _ _ _ _ => (pgd_name 9 sc_read_paper.nd)) (fun _ _ _ _ _ => ptd_nil) (fun _ _ _ _ _ => (px_cmp d_isN (py_var 9) (py_of px_non) (nomark _)))
abbrev s_reads : Stmt := top 31
def b1_reads : M Fl := (sSet 3 (eCall [false] den_read_paper (aCons (oVa (eVar 0)) aNil)))
def ev_reads : M Fl := (sSeq (sTry b1_reads ((lkS hw_OnceError, (sRet (eCst (.bl false)))) :: []))
  (sRet (eCall [false, false] (den_alike 4) (aCons (oVa (eVar 3)) (aCons (oVa (eTup (aCons (oVa (eVar 1)) (aCons (oVa (eVar 2)) aNil)))) aNil)))))
def den_reads : List D → DR := runD [false, false, false] 4 ev_reads
theorem sc_reads : FnScope ["_law_text", "_law_word", "_law_letters", "_law_told"] ["_law_text", "_law_word", "_law_letters"] (defScope s_reads) := ⟨rfl, rfl, rfl, by decide +kernel, rfl, by decide +kernel, by decide +kernel⟩
set_option maxHeartbeats 8000000 in
theorem ok_reads (T : TopFn K mg "_law_reads" s_reads) (B : Bt K mg) (E : Ex P w K mg base) (G_alike : DefOk P w K mg base 6 "_law_alike" [false, false] (den_alike 4)) (G_read_paper : DefOk P w K mg base 4 "read_paper" [false] den_read_paper) : DefOk P w K mg base 7 "_law_reads" [false, false, false] den_reads := by
  refine defOk_mk (N := ["_law_text", "_law_word", "_law_letters", "_law_told"]) (ps := ["_law_text", "_law_word", "_law_letters"]) T sc_reads rfl (by decide) (fun _ _ _ _ _ _ us hl => match us, hl with | [_, _, _], _ => rfl) fun f cdv A outer s H E0 hr => ?_
  exact (pd_cons (pd_tryF (fun _ _ => (pd_one (pd_set 3 sc_reads.nd (px_call (by exact G_read_paper) (by exact hr.mono (by decide)) (pr_cons (py_of (px_var 0)) pr_nil))))) (.cons E.h_OnceError (fun _ _ _ => (pd_one (pd_ret px_bl))) .nil))
  (pd_one (pd_ret (px_call (by exact G_alike) (by exact hr.mono (by decide)) (pr_cons (py_of (px_var 3)) (pr_cons (py_of (px_tup (pr_cons (py_of (px_var 1)) (pr_cons (py_of (px_var 2)) pr_nil)))) pr_nil))))))
abbrev s_good : Stmt := top 32
def ev_good : M Fl := (sSeq (sSet 3 (eBi listD (aCons (oVar 1) aNil)))
  (sSeq (sSet 4 (eCall [false, false] den_write_paper (aCons (oVa (eVar 0)) (aCons (oVa (eVar 3)) aNil))))
  (sSeq (sIf (bOr (bNot (bE (eIs c_str (oVar 4)))) (bOr (bE (eOp neD (oVar 4) (oVar 2))) (bE (eOp neD (oVar 3) (oVa (eBi listD (aCons (oVar 1) aNil))))))) (sRet (eCst (.bl false))) sNil)
  (sRet (eAnd (eOp eqD (oVa (eCall [false, false] den_write_paper (aCons (oVa (eVar 0)) (aCons (oVa (eVar 1)) aNil)))) (oVar 2)) (eCall [false, false, false] den_reads (aCons (oVa (eVar 2)) (aCons (oVa (eVar 0)) (aCons (oVa (eVar 1)) aNil)))))))))
def den_good : List D → DR := runD [false, false, false] 5 ev_good
theorem sc_good : FnScope ["_law_word", "_law_letters", "_law_text", "_law_handed", "_law_told"] ["_law_word", "_law_letters", "_law_text"] (defScope s_good) := ⟨rfl, rfl, rfl, by decide +kernel, rfl, by decide +kernel, by decide +kernel⟩
set_option maxHeartbeats 8000000 in
theorem ok_good (T : TopFn K mg "_law_good" s_good) (B : Bt K mg) (E : Ex P w K mg base) (G_reads : DefOk P w K mg base 7 "_law_reads" [false, false, false] den_reads) (G_write_paper : DefOk P w K mg base 3 "write_paper" [false, false] den_write_paper) : DefOk P w K mg base 8 "_law_good" [false, false, false] den_good := by
  refine defOk_mk (N := ["_law_word", "_law_letters", "_law_text", "_law_handed", "_law_told"]) (ps := ["_law_word", "_law_letters", "_law_text"]) T sc_good rfl (by decide) (fun _ _ _ _ _ _ us hl => match us, hl with | [_, _, _], _ => rfl) fun f cdv A outer s H E0 hr => ?_
  exact (pd_cons (pd_set 3 sc_good.nd (px_new (pn_ty dN_list rfl B.list (by decide +kernel) (pr_cons (py_var 1) pr_nil))))
  (pd_cons (pd_set 4 sc_good.nd (px_call (by exact G_write_paper) (by exact hr.mono (by decide)) (pr_cons (py_of (px_var 0)) (pr_cons (py_of (px_var 3)) pr_nil))))
  (pd_cons (pd_if (pb_w (pbw_or (pb_not (pb_val (px_isT (T := "str") E.i_str (py_var 4) B.str B.isinstance (by decide +kernel)))) (pbw_or (pb_cmp (d_ne (hu64 hr)) (py_var 4) (py_var 2) (nomark _)) (pbw_or1 (pb_cmp (d_ne (hu64 hr)) (py_var 3) (py_of (px_new (pn_ty dN_list rfl B.list (by decide +kernel) (pr_cons (py_var 1) pr_nil)))) (nomark _)))))) (pd_one (pd_ret px_bl)) pd_nil)
  (pd_one (pd_ret (px_and (px_cmp (d_eq (hu64 hr)) (py_of (px_call (by exact G_write_paper) (by exact hr.mono (by decide)) (pr_cons (py_of (px_var 0)) (pr_cons (py_of (px_var 1)) pr_nil)))) (py_var 2) (nomark _)) (px_one (px_call (by exact G_reads) (by exact hr.mono (by decide)) (pr_cons (py_of (px_var 2)) (pr_cons (py_of (px_var 0)) (pr_cons (py_of (px_var 1)) pr_nil)))))))))))
abbrev s_cell : Stmt := top 20
def b1_cell : M Fl := (sSet 2 (eOp modD (oVa (eBi intD (aCons (oVa (eOp addD (oVa (eOp mulI (oVar 2) (oVa (eCst (.int 31))))) (oVa (eOp modD (oVa (eBi intD (aCons (oVar 3) aNil))) (oVa (eCst (.int 1000003))))))) aNil))) (oVa (eCst (.int 1000003)))))
def ev_cell : M Fl := (sSeq (sIf (bE (eOp ltD (oVar 1) (oVa (eBi lenD (aCons (oVar 0) aNil))))) (sRet (eOp ixD (oVar 0) (oVar 1))) sNil)
  (sSeq (sSet 2 (eCst (.int 17)))
  (sSeq (sFor (iD (eVar 0)) (gN 3) b1_cell)
  (sRet (eOp modD (oVa (eBi intD (aCons (oVa (eOp mulI (oVa (eOp mulI (oVa (eOp addD (oVar 2) (oVa (eCst (.int 7))))) (oVa (eOp addD (oVar 1) (oVa (eCst (.int 3))))))) (oVa (eCst (.int 69621))))) aNil))) (oVa (eCst (.int 2147483647))))))))
def den_cell : List D → DR := runD [false, false] 4 ev_cell
theorem sc_cell : FnScope ["_law_script", "_law_k", "_law_seed", "_law_cell_here"] ["_law_script", "_law_k"] (defScope s_cell) := ⟨rfl, rfl, rfl, by decide +kernel, rfl, by decide +kernel, by decide +kernel⟩
set_option maxHeartbeats 8000000 in
theorem ok_cell (T : TopFn K mg "_law_cell" s_cell) (B : Bt K mg) : DefOk P w K mg base 1 "_law_cell" [false, false] den_cell := by
  refine defOk_mk (N := ["_law_script", "_law_k", "_law_seed", "_law_cell_here"]) (ps := ["_law_script", "_law_k"]) T sc_cell rfl (by decide) (fun _ _ _ _ _ _ us hl => match us, hl with | [_, _], _ => rfl) fun f cdv A outer s H E0 hr => ?_
  exact (pd_cons (pd_if (pb_cmp d_lt (py_var 1) (py_of (px_bi d_len rfl B.len (by decide +kernel) (pr_cons (py_var 0) pr_nil))) (nomark _)) (pd_one (pd_ret (px_ix d_ix (py_var 0) (py_var 1)))) pd_nil)
  (pd_cons (pd_set 2 sc_cell.nd px_int)
  (pd_cons (pd_for rfl (pi_seq (px_var 0)) (pgd_name 3 sc_cell.nd) (pd_one (pd_set 2 sc_cell.nd (px_op d_mod (py_of (px_ty d_int rfl B.int (by decide +kernel) (pr_cons (py_of (px_op d_add (py_of (px_op d_mulI (py_var 2) (py_of px_int))) (py_of (px_op d_mod (py_of (px_ty d_int rfl B.int (by decide +kernel) (pr_cons (py_var 3) pr_nil))) (py_of px_int))))) pr_nil))) (py_of px_int)))))
  (pd_one (pd_ret (px_op d_mod (py_of (px_ty d_int rfl B.int (by decide +kernel) (pr_cons (py_of (px_op d_mulI (py_of (px_op d_mulI (py_of (px_op d_add (py_var 2) (py_of px_int))) (py_of (px_op d_add (py_var 1) (py_of px_int))))) (py_of px_int))) pr_nil))) (py_of px_int)))))))
abbrev s_odd_word : Stmt := top 26
def ev_odd_word : M Fl := (sSeq (sSet 2 (nLst (aCons (oVa (eCst (.str ""))) (aCons (oVa (eCst (.str "00"))) (aCons (oVa (eCst (.str "01"))) (aCons (oVa (eCst (.str "+1"))) (aCons (oVa (eCst (.str "-1"))) (aCons (oVa (eCst (.str "-0"))) (aCons (oVa (eCst (.str "1.0"))) (aCons (oVa (eCst (.str "Yes"))) (aCons (oVa (eCst (.str "yes"))) (aCons (oVa (eCst (.str "no"))) (aCons (oVa (eCst (.str "taken"))) (aCons (oVa (eCst (.str "never"))) (aCons (oVa (eCst (.str "maybe"))) (aCons (oVa (eCst (.str "paper"))) (aCons (oVa (eCst (.str "399"))) (aCons (oVa (eCst (.str "400"))) (aCons (oVa (eCst (.str "4000"))) aNil)))))))))))))))))))
  (sSeq (sSet 2 (eOp addD (oVar 2) (oVa (nLst (aCons (oVa (eBi strD (aCons (oVar 1) aNil))) (aCons (oVa (eBi strD (aCons (oVa (eOp addD (oVar 1) (oVa (eCst (.int 1))))) aNil))) (aCons (oVa (eBi strD (aCons (oVa (eOp subD (oVar 1) (oVa (eCst (.int 1))))) aNil))) (aCons (oVa (eOp mulS (oVa (eCst (.str "9"))) (oVa (eCst (.int 30))))) (aCons (oVa (eCst (.str "0"))) (aCons (oVa (eCst (.str "007"))) (aCons (oVa (eCst (.str "1e2"))) (aCons (oVa (eCst (.str "1,"))) (aCons (oVa (eCst (.str "a"))) (aCons (oVa (eCst (.str "0x1"))) (aCons (oVa (eCst (.str "398"))) (aCons (oVa (eOp addD (oVa (eCst (.str "1"))) (oVa (eOp mulS (oVa (eCst (.str "0"))) (oVa (eCst (.int 25))))))) aNil))))))))))))))))
  (sRet (eOp ixD (oVar 2) (oVa (eOp modD (oVa (eBi intD (aCons (oVar 0) aNil))) (oVa (eBi lenD (aCons (oVar 2) aNil)))))))))
def den_odd_word : List D → DR := runD [false, false] 3 ev_odd_word
theorem sc_odd_word : FnScope ["_law_digit", "_law_bound", "_law_menu"] ["_law_digit", "_law_bound"] (defScope s_odd_word) := ⟨rfl, rfl, rfl, by decide +kernel, rfl, by decide +kernel, by decide +kernel⟩
set_option maxHeartbeats 8000000 in
theorem ok_odd_word (T : TopFn K mg "_law_odd_word" s_odd_word) (B : Bt K mg) : DefOk P w K mg base 1 "_law_odd_word" [false, false] den_odd_word := by
  refine defOk_mk (N := ["_law_digit", "_law_bound", "_law_menu"]) (ps := ["_law_digit", "_law_bound"]) T sc_odd_word rfl (by decide) (fun _ _ _ _ _ _ us hl => match us, hl with | [_, _], _ => rfl) fun f cdv A outer s H E0 hr => ?_
  exact (pd_cons (pd_set 2 sc_odd_word.nd (px_new (pn_lst (pr_cons (py_of px_str) (pr_cons (py_of px_str) (pr_cons (py_of px_str) (pr_cons (py_of px_str) (pr_cons (py_of px_str) (pr_cons (py_of px_str) (pr_cons (py_of px_str) (pr_cons (py_of px_str) (pr_cons (py_of px_str) (pr_cons (py_of px_str) (pr_cons (py_of px_str) (pr_cons (py_of px_str) (pr_cons (py_of px_str) (pr_cons (py_of px_str) (pr_cons (py_of px_str) (pr_cons (py_of px_str) (pr_cons (py_of px_str) pr_nil))))))))))))))))))))
  (pd_cons (pd_set 2 sc_odd_word.nd (px_op d_add (py_var 2) (py_of (px_new (pn_lst (pr_cons (py_of (px_ty d_str rfl B.str (by decide +kernel) (pr_cons (py_var 1) pr_nil))) (pr_cons (py_of (px_ty d_str rfl B.str (by decide +kernel) (pr_cons (py_of (px_op d_add (py_var 1) (py_of px_int))) pr_nil))) (pr_cons (py_of (px_ty d_str rfl B.str (by decide +kernel) (pr_cons (py_of (px_op d_sub (py_var 1) (py_of px_int))) pr_nil))) (pr_cons (py_of (px_op d_mulS (py_of px_str) (py_of px_int))) (pr_cons (py_of px_str) (pr_cons (py_of px_str) (pr_cons (py_of px_str) (pr_cons (py_of px_str) (pr_cons (py_of px_str) (pr_cons (py_of px_str) (pr_cons (py_of px_str) (pr_cons (py_of (px_op d_add (py_of px_str) (py_of (px_op d_mulS (py_of px_str) (py_of px_int))))) pr_nil)))))))))))))))))
  (pd_one (pd_ret (px_ix d_ix (py_var 2) (py_of (px_op d_mod (py_of (px_ty d_int rfl B.int (by decide +kernel) (pr_cons (py_var 0) pr_nil))) (py_of (px_bi d_len rfl B.len (by decide +kernel) (pr_cons (py_var 2) pr_nil))))))))))
abbrev s_changed : Stmt := top 27
def ev_changed : M Fl := (sSeq (sNew 2 (eMt "str" splitD (oVar 0) (aCons (oVa (eCst (.str "\n"))) aNil)))
  (sSeq (sSet 3 (eOp modD (oVa (eBi intD (aCons (oVa (eOp ixD (oVar 1) (oVa (eCst (.int 1))))) aNil))) (oVa (eBi lenD (aCons (oVar 2) aNil)))))
  (sSeq (sSet 4 (eOp modD (oVa (eBi intD (aCons (oVa (eOp ixD (oVar 1) (oVa (eCst (.int 2))))) aNil))) (oVa (eBi lenD (aCons (oVar 2) aNil)))))
  (sSeq (sNew 5 (eMt "str" splitD (oVa (eOp ixD (oVar 2) (oVar 3))) (aCons (oVa (eCst (.str " "))) aNil)))
  (sSeq (sSet 6 (eOp modD (oVa (eBi intD (aCons (oVa (eOp ixD (oVar 1) (oVa (eCst (.int 3))))) aNil))) (oVa (eBi lenD (aCons (oVar 5) aNil)))))
  (sSeq (sSet 7 (eOp modD (oVa (eBi intD (aCons (oVa (eOp ixD (oVar 1) (oVa (eCst (.int 0))))) aNil))) (oVa (eCst (.int 14)))))
  (sSeq (sIf (bE (eOp eqD (oVar 7) (oVa (eCst (.int 0))))) (sRet (eJoin "\n" (oVa (eOp addD (oVa (eSl (oVar 2) hNo (hSo (eVar 3)))) (oVa (eSl (oVar 2) (hSo (eOp addD (oVar 3) (oVa (eCst (.int 1))))) hNo)))))) sNil)
  (sSeq (sIf (bE (eOp eqD (oVar 7) (oVa (eCst (.int 1))))) (sRet (eJoin "\n" (oVa (eOp addD (oVa (eOp addD (oVa (eSl (oVar 2) hNo (hSo (eVar 3)))) (oVa (nLst (aCons (oVa (eOp ixD (oVar 2) (oVar 4))) aNil))))) (oVa (eSl (oVar 2) (hSo (eVar 3)) hNo)))))) sNil)
  (sSeq (sIf (bE (eOp eqD (oVar 7) (oVa (eCst (.int 2))))) (sSeq (sSet 8 (eOp ixD (oVar 2) (oVar 3)))
  (sSeq (sPut 2 (eVar 3) (eOp ixD (oVar 2) (oVar 4)))
  (sSeq (sPut 2 (eVar 4) (eVar 8))
  (sRet (eJoin "\n" (oVar 2)))))) sNil)
  (sSeq (sIf (bE (eOp eqD (oVar 7) (oVa (eCst (.int 3))))) (sRet (eOp addD (oVar 0) (oVa (eOp ixD (oVa (nLst (aCons (oVa (eCst (.str "\n"))) (aCons (oVa (eCst (.str "\n\n"))) (aCons (oVa (eCst (.str " "))) (aCons (oVa (eOp addD (oVa (eCst (.str "\n"))) (oVa (eOp ixD (oVar 2) (oVar 4))))) (aCons (oVa (eCst (.str "\n7"))) (aCons (oVa (eCst (.str " 7"))) aNil)))))))) (oVa (eOp modD (oVa (eBi intD (aCons (oVa (eOp ixD (oVar 1) (oVa (eCst (.int 3))))) aNil))) (oVa (eCst (.int 6))))))))) sNil)
  (sSeq (sIf (bAnd (bE (eOp eqD (oVar 7) (oVa (eCst (.int 4))))) (bE (eOp eqD (oVa (eOp modD (oVa (eBi intD (aCons (oVa (eOp ixD (oVar 1) (oVa (eCst (.int 4))))) aNil))) (oVa (eCst (.int 2))))) (oVa (eCst (.int 0)))))) (sRet (eJoin "\n" (oVa (eSl (oVar 2) hNo (hSo (eOp addD (oVar 3) (oVa (eCst (.int 1))))))))) sNil)
  (sSeq (sIf (bE (eOp eqD (oVar 7) (oVa (eCst (.int 4))))) (sRet (eSl (oVar 0) hNo (hSo (eOp modD (oVa (eBi intD (aCons (oVa (eOp addD (oVa (eOp mulI (oVa (eOp ixD (oVar 1) (oVa (eCst (.int 1))))) (oVa (eCst (.int 60))))) (oVa (eOp ixD (oVar 1) (oVa (eCst (.int 2))))))) aNil))) (oVa (eOp addD (oVa (eBi lenD (aCons (oVar 0) aNil))) (oVa (eCst (.int 1))))))))) sNil)
  (sSeq (sIf (bE (eOp eqD (oVar 7) (oVa (eCst (.int 5))))) (sSeq (sSet 9 (eOp modD (oVa (eBi intD (aCons (oVa (eOp addD (oVa (eOp mulI (oVa (eOp ixD (oVar 1) (oVa (eCst (.int 1))))) (oVa (eCst (.int 60))))) (oVa (eOp ixD (oVar 1) (oVa (eCst (.int 2))))))) aNil))) (oVa (eOp addD (oVa (eBi lenD (aCons (oVar 0) aNil))) (oVa (eCst (.int 1)))))))
  (sRet (eOp addD (oVa (eOp addD (oVa (eSl (oVar 0) hNo (hSo (eVar 9)))) (oVa (eOp ixD (oVa (nLst (aCons (oVa (eCst (.str " "))) (aCons (oVa (eCst (.str "0"))) (aCons (oVa (eCst (.str "\n"))) (aCons (oVa (eCst (.str "a"))) (aCons (oVa (eCst (.str "1"))) (aCons (oVa (eCst (.str "-"))) (aCons (oVa (eCst (.str ""))) aNil))))))))) (oVa (eOp modD (oVa (eBi intD (aCons (oVa (eOp ixD (oVar 1) (oVa (eCst (.int 3))))) aNil))) (oVa (eCst (.int 7))))))))) (oVa (eSl (oVar 0) (hSo (eOp addD (oVar 9) (oVa (eOp modD (oVa (eBi intD (aCons (oVa (eOp ixD (oVar 1) (oVa (eCst (.int 4))))) aNil))) (oVa (eCst (.int 2))))))) hNo))))) sNil)
  (sSeq (sIf (bE (eOp eqD (oVar 7) (oVa (eCst (.int 9))))) (sRet (eJoin "\n" (oVa (eOp addD (oVa (eOp addD (oVa (eSl (oVar 2) hNo (hSo (eVar 3)))) (oVa (nLst (aCons (oVa (eJoin " " (oVa (eSl (oVar 5) hNo (hSo (eVar 6)))))) (aCons (oVa (eJoin " " (oVa (eSl (oVar 5) (hSo (eVar 6)) hNo)))) aNil)))))) (oVa (eSl (oVar 2) (hSo (eOp addD (oVar 3) (oVa (eCst (.int 1))))) hNo)))))) sNil)
  (sSeq (sIf (bE (eOp eqD (oVar 7) (oVa (eCst (.int 6))))) (sNew 5 (eOp addL (oVa (eSl (oVar 5) hNo (hSo (eVar 6)))) (oVa (eSl (oVar 5) (hSo (eOp addD (oVar 6) (oVa (eCst (.int 1))))) hNo)))) (sIf (bE (eOp eqD (oVar 7) (oVa (eCst (.int 7))))) (sNew 5 (eOp addL (oVa (eOp addD (oVa (eSl (oVar 5) hNo (hSo (eVar 6)))) (oVa (nLst (aCons (oVa (eOp ixD (oVar 5) (oVa (eOp modD (oVa (eBi intD (aCons (oVa (eOp ixD (oVar 1) (oVa (eCst (.int 4))))) aNil))) (oVa (eBi lenD (aCons (oVar 5) aNil))))))) aNil))))) (oVa (eSl (oVar 5) (hSo (eVar 6)) hNo)))) (sIf (bAnd (bE (eOp eqD (oVar 7) (oVa (eCst (.int 8))))) (bE (eOp ltD (oVa (eOp addD (oVar 3) (oVa (eCst (.int 1))))) (oVa (eBi lenD (aCons (oVar 2) aNil)))))) (sSeq (sNew 5 (eOp addL (oVar 5) (oVa (eMt "str" splitD (oVa (eOp ixD (oVar 2) (oVa (eOp addD (oVar 3) (oVa (eCst (.int 1))))))) (aCons (oVa (eCst (.str " "))) aNil)))))
  (sNew 2 (eOp addL (oVa (eSl (oVar 2) hNo (hSo (eOp addD (oVar 3) (oVa (eCst (.int 1))))))) (oVa (eSl (oVar 2) (hSo (eOp addD (oVar 3) (oVa (eCst (.int 2))))) hNo))))) (sIf (bE (eOp ltD (oVar 7) (oVa (eCst (.int 12))))) (sPut 5 (eVar 6) (eBi strD (aCons (oVa (eOp modD (oVa (eOp mulI (oVa (eBi intD (aCons (oVa (eOp ixD (oVar 1) (oVa (eCst (.int 4))))) aNil))) (oVa (eCst (.int 7))))) (oVa (eCst (.int 400))))) aNil))) (sPut 5 (eVar 6) (eCall [false, false] den_odd_word (aCons (oVa (eOp ixD (oVar 1) (oVa (eCst (.int 4))))) (aCons (oVa (eOp ixD (oVar 1) (oVa (eCst (.int 5))))) aNil))))))))
  (sSeq (sPut 2 (eVar 3) (eJoin " " (oVar 5)))
  (sRet (eJoin "\n" (oVar 2)))))))))))))))))))
def den_changed : List D → DR := runD [false, false] 10 ev_changed
theorem sc_changed : FnScope ["_law_text", "_law_row", "_law_lines", "_law_place", "_law_other", "_law_words", "_law_spot", "_law_kind", "_law_kept", "_law_at"] ["_law_text", "_law_row"] (defScope s_changed) := ⟨rfl, rfl, rfl, by decide +kernel, rfl, by decide +kernel, by decide +kernel⟩
set_option maxHeartbeats 8000000 in
theorem ok_changed (T : TopFn K mg "_law_changed" s_changed) (B : Bt K mg) (G_odd_word : DefOk P w K mg base 1 "_law_odd_word" [false, false] den_odd_word) : DefOk P w K mg base 2 "_law_changed" [false, false] den_changed := by
  refine defOk_mk (N := ["_law_text", "_law_row", "_law_lines", "_law_place", "_law_other", "_law_words", "_law_spot", "_law_kind", "_law_kept", "_law_at"]) (ps := ["_law_text", "_law_row"]) T sc_changed rfl (by decide) (fun _ _ _ _ _ _ us hl => match us, hl with | [_, _], _ => rfl) fun f cdv A outer s H E0 hr => ?_
  exact (pd_cons (pd_new 2 sc_changed.nd (pn_mt PySem.F.plainAttrs_str PySem.F.slot_str_split PySem.F.type_str_split (by exact mt_splitN) (py_var 0) (pr_cons (py_of px_str) pr_nil)))
  (pd_cons (pd_set 3 sc_changed.nd (px_op d_mod (py_of (px_ty d_int rfl B.int (by decide +kernel) (pr_cons (py_of (px_ix d_ix (py_var 1) (py_of px_int))) pr_nil))) (py_of (px_bi d_len rfl B.len (by decide +kernel) (pr_cons (py_var 2) pr_nil)))))
  (pd_cons (pd_set 4 sc_changed.nd (px_op d_mod (py_of (px_ty d_int rfl B.int (by decide +kernel) (pr_cons (py_of (px_ix d_ix (py_var 1) (py_of px_int))) pr_nil))) (py_of (px_bi d_len rfl B.len (by decide +kernel) (pr_cons (py_var 2) pr_nil)))))
  (pd_cons (pd_new 5 sc_changed.nd (pn_mt PySem.F.plainAttrs_str PySem.F.slot_str_split PySem.F.type_str_split (by exact mt_splitN) (py_of (px_ix d_ix (py_var 2) (py_var 3))) (pr_cons (py_of px_str) pr_nil)))
  (pd_cons (pd_set 6 sc_changed.nd (px_op d_mod (py_of (px_ty d_int rfl B.int (by decide +kernel) (pr_cons (py_of (px_ix d_ix (py_var 1) (py_of px_int))) pr_nil))) (py_of (px_bi d_len rfl B.len (by decide +kernel) (pr_cons (py_var 5) pr_nil)))))
  (pd_cons (pd_set 7 sc_changed.nd (px_op d_mod (py_of (px_ty d_int rfl B.int (by decide +kernel) (pr_cons (py_of (px_ix d_ix (py_var 1) (py_of px_int))) pr_nil))) (py_of px_int)))
  (pd_cons (pd_if (pb_cmp (d_eq (hu64 hr)) (py_var 7) (py_of px_int) (nomark _)) (pd_one (pd_ret (px_join (py_of (px_op d_add (py_of (px_slice (py_var 2) po_no (po_so (px_var 3)))) (py_of (px_slice (py_var 2) (po_so (px_op d_add (py_var 3) (py_of px_int))) po_no))))))) pd_nil)
  (pd_cons (pd_if (pb_cmp (d_eq (hu64 hr)) (py_var 7) (py_of px_int) (nomark _)) (pd_one (pd_ret (px_join (py_of (px_op d_add (py_of (px_op d_add (py_of (px_slice (py_var 2) po_no (po_so (px_var 3)))) (py_of (px_new (pn_lst (pr_cons (py_of (px_ix d_ix (py_var 2) (py_var 4))) pr_nil)))))) (py_of (px_slice (py_var 2) (po_so (px_var 3)) po_no))))))) pd_nil)
  (pd_cons (pd_if (pb_cmp (d_eq (hu64 hr)) (py_var 7) (py_of px_int) (nomark _)) (pd_cons (pd_set 8 sc_changed.nd (px_ix d_ix (py_var 2) (py_var 3)))
  (pd_cons (pd_put 2 (px_var 3) (px_ix d_ix (py_var 2) (py_var 4)))
  (pd_cons (pd_put 2 (px_var 4) (px_var 8))
  (pd_one (pd_ret (px_join (py_var 2))))))) pd_nil)
  (pd_cons (pd_if (pb_cmp (d_eq (hu64 hr)) (py_var 7) (py_of px_int) (nomark _)) (pd_one (pd_ret (px_op d_add (py_var 0) (py_of (px_ix d_ix (py_of (px_new (pn_lst (pr_cons (py_of px_str) (pr_cons (py_of px_str) (pr_cons (py_of px_str) (pr_cons (py_of (px_op d_add (py_of px_str) (py_of (px_ix d_ix (py_var 2) (py_var 4))))) (pr_cons (py_of px_str) (pr_cons (py_of px_str) pr_nil))))))))) (py_of (px_op d_mod (py_of (px_ty d_int rfl B.int (by decide +kernel) (pr_cons (py_of (px_ix d_ix (py_var 1) (py_of px_int))) pr_nil))) (py_of px_int)))))))) pd_nil)
  (pd_cons (pd_if (pb_w (pbw_and (pb_cmp (d_eq (hu64 hr)) (py_var 7) (py_of px_int) (nomark _)) (pbw_and1 (pb_cmp (d_eq (hu64 hr)) (py_of (px_op d_mod (py_of (px_ty d_int rfl B.int (by decide +kernel) (pr_cons (py_of (px_ix d_ix (py_var 1) (py_of px_int))) pr_nil))) (py_of px_int))) (py_of px_int) (nomark _))))) (pd_one (pd_ret (px_join (py_of (px_slice (py_var 2) po_no (po_so (px_op d_add (py_var 3) (py_of px_int)))))))) pd_nil)
  (pd_cons (pd_if (pb_cmp (d_eq (hu64 hr)) (py_var 7) (py_of px_int) (nomark _)) (pd_one (pd_ret (px_slice (py_var 0) po_no (po_so (px_op d_mod (py_of (px_ty d_int rfl B.int (by decide +kernel) (pr_cons (py_of (px_op d_add (py_of (px_op d_mulI (py_of (px_ix d_ix (py_var 1) (py_of px_int))) (py_of px_int))) (py_of (px_ix d_ix (py_var 1) (py_of px_int))))) pr_nil))) (py_of (px_op d_add (py_of (px_bi d_len rfl B.len (by decide +kernel) (pr_cons (py_var 0) pr_nil))) (py_of px_int)))))))) pd_nil)
  (pd_cons (pd_if (pb_cmp (d_eq (hu64 hr)) (py_var 7) (py_of px_int) (nomark _)) (pd_cons (pd_set 9 sc_changed.nd (px_op d_mod (py_of (px_ty d_int rfl B.int (by decide +kernel) (pr_cons (py_of (px_op d_add (py_of (px_op d_mulI (py_of (px_ix d_ix (py_var 1) (py_of px_int))) (py_of px_int))) (py_of (px_ix d_ix (py_var 1) (py_of px_int))))) pr_nil))) (py_of (px_op d_add (py_of (px_bi d_len rfl B.len (by decide +kernel) (pr_cons (py_var 0) pr_nil))) (py_of px_int)))))
  (pd_one (pd_ret (px_op d_add (py_of (px_op d_add (py_of (px_slice (py_var 0) po_no (po_so (px_var 9)))) (py_of (px_ix d_ix (py_of (px_new (pn_lst (pr_cons (py_of px_str) (pr_cons (py_of px_str) (pr_cons (py_of px_str) (pr_cons (py_of px_str) (pr_cons (py_of px_str) (pr_cons (py_of px_str) (pr_cons (py_of px_str) pr_nil)))))))))) (py_of (px_op d_mod (py_of (px_ty d_int rfl B.int (by decide +kernel) (pr_cons (py_of (px_ix d_ix (py_var 1) (py_of px_int))) pr_nil))) (py_of px_int))))))) (py_of (px_slice (py_var 0) (po_so (px_op d_add (py_var 9) (py_of (px_op d_mod (py_of (px_ty d_int rfl B.int (by decide +kernel) (pr_cons (py_of (px_ix d_ix (py_var 1) (py_of px_int))) pr_nil))) (py_of px_int))))) po_no)))))) pd_nil)
  (pd_cons (pd_if (pb_cmp (d_eq (hu64 hr)) (py_var 7) (py_of px_int) (nomark _)) (pd_one (pd_ret (px_join (py_of (px_op d_add (py_of (px_op d_add (py_of (px_slice (py_var 2) po_no (po_so (px_var 3)))) (py_of (px_new (pn_lst (pr_cons (py_of (px_join (py_of (px_slice (py_var 5) po_no (po_so (px_var 6)))))) (pr_cons (py_of (px_join (py_of (px_slice (py_var 5) (po_so (px_var 6)) po_no)))) pr_nil))))))) (py_of (px_slice (py_var 2) (po_so (px_op d_add (py_var 3) (py_of px_int))) po_no))))))) pd_nil)
  (pd_cons (pd_if (pb_cmp (d_eq (hu64 hr)) (py_var 7) (py_of px_int) (nomark _)) (pd_one (pd_new 5 sc_changed.nd (pn_op dN_addL (py_of (px_slice (py_var 5) po_no (po_so (px_var 6)))) (py_of (px_slice (py_var 5) (po_so (px_op d_add (py_var 6) (py_of px_int))) po_no))))) (pd_one (pd_if (pb_cmp (d_eq (hu64 hr)) (py_var 7) (py_of px_int) (nomark _)) (pd_one (pd_new 5 sc_changed.nd (pn_op dN_addL (py_of (px_op d_add (py_of (px_slice (py_var 5) po_no (po_so (px_var 6)))) (py_of (px_new (pn_lst (pr_cons (py_of (px_ix d_ix (py_var 5) (py_of (px_op d_mod (py_of (px_ty d_int rfl B.int (by decide +kernel) (pr_cons (py_of (px_ix d_ix (py_var 1) (py_of px_int))) pr_nil))) (py_of (px_bi d_len rfl B.len (by decide +kernel) (pr_cons (py_var 5) pr_nil))))))) pr_nil)))))) (py_of (px_slice (py_var 5) (po_so (px_var 6)) po_no))))) (pd_one (pd_if (pb_w (pbw_and (pb_cmp (d_eq (hu64 hr)) (py_var 7) (py_of px_int) (nomark _)) (pbw_and1 (pb_cmp d_lt (py_of (px_op d_add (py_var 3) (py_of px_int))) (py_of (px_bi d_len rfl B.len (by decide +kernel) (pr_cons (py_var 2) pr_nil))) (nomark _))))) (pd_cons (pd_new 5 sc_changed.nd (pn_op dN_addL (py_var 5) (py_of (px_mt PySem.F.plainAttrs_str PySem.F.slot_str_split PySem.F.type_str_split (by exact mt_split') (py_of (px_ix d_ix (py_var 2) (py_of (px_op d_add (py_var 3) (py_of px_int))))) (pr_cons (py_of px_str) pr_nil)))))
  (pd_one (pd_new 2 sc_changed.nd (pn_op dN_addL (py_of (px_slice (py_var 2) po_no (po_so (px_op d_add (py_var 3) (py_of px_int))))) (py_of (px_slice (py_var 2) (po_so (px_op d_add (py_var 3) (py_of px_int))) po_no)))))) (pd_one (pd_if (pb_cmp d_lt (py_var 7) (py_of px_int) (nomark _)) (pd_one (pd_put 5 (px_var 6) (px_ty d_str rfl B.str (by decide +kernel) (pr_cons (py_of (px_op d_mod (py_of (px_op d_mulI (py_of (px_ty d_int rfl B.int (by decide +kernel) (pr_cons (py_of (px_ix d_ix (py_var 1) (py_of px_int))) pr_nil))) (py_of px_int))) (py_of px_int))) pr_nil)))) (pd_one (pd_put 5 (px_var 6) (px_call (by exact G_odd_word) (by exact hr.mono (by decide)) (pr_cons (py_of (px_ix d_ix (py_var 1) (py_of px_int))) (pr_cons (py_of (px_ix d_ix (py_var 1) (py_of px_int))) pr_nil))))))))))))
  (pd_cons (pd_put 2 (px_var 3) (px_join (py_var 5)))
  (pd_one (pd_ret (px_join (py_var 2))))))))))))))))))))
abbrev s_number : Stmt := top 24
def b1_number : M Fl := (sSeq (sIf (bE (eOp (inD true) (oVar 2) (oVa (eCst (.str "0123456789"))))) (sRet (eNeg (eCst (.int 1)))) sNil)
  (sSet 1 (eOp addD (oVa (eOp mulI (oVar 1) (oVa (eCst (.int 10))))) (oVa (eMt "str" sindexD (oVa (eCst (.str "0123456789"))) (aCons (oVar 2) aNil))))))
def ev_number : M Fl := (sSeq (sIf (bOr (bE (eOp ltD (oVa (eBi lenD (aCons (oVar 0) aNil))) (oVa (eCst (.int 1))))) (bAnd (bE (eOp eqD (oVa (eOp ixD (oVar 0) (oVa (eCst (.int 0))))) (oVa (eCst (.str "0"))))) (bE (eOp gtD (oVa (eBi lenD (aCons (oVar 0) aNil))) (oVa (eCst (.int 1))))))) (sRet (eNeg (eCst (.int 1)))) sNil)
  (sSeq (sSet 1 (eCst (.int 0)))
  (sSeq (sFor (iD (eVar 0)) (gN 2) b1_number)
  (sRet (eVar 1)))))
def den_number : List D → DR := runD [false] 3 ev_number
theorem sc_number : FnScope ["_law_word", "_law_value", "_law_sign"] ["_law_word"] (defScope s_number) := ⟨rfl, rfl, rfl, by decide +kernel, rfl, by decide +kernel, by decide +kernel⟩
set_option maxHeartbeats 8000000 in
theorem ok_number (T : TopFn K mg "_law_number" s_number) (B : Bt K mg) : DefOk P w K mg base 1 "_law_number" [false] den_number := by
  refine defOk_mk (N := ["_law_word", "_law_value", "_law_sign"]) (ps := ["_law_word"]) T sc_number rfl (by decide) (fun _ _ _ _ _ _ us hl => match us, hl with | [_], _ => rfl) fun f cdv A outer s H E0 hr => ?_
  exact (pd_cons (pd_if (pb_w (pbw_or (pb_cmp d_lt (py_of (px_bi d_len rfl B.len (by decide +kernel) (pr_cons (py_var 0) pr_nil))) (py_of px_int) (nomark _)) (pbw_or1 (pb_w (pbw_and (pb_cmp (d_eq (hu64 hr)) (py_of (px_ix d_ix (py_var 0) (py_of px_int))) (py_of px_str) (nomark _)) (pbw_and1 (pb_cmp d_gt (py_of (px_bi d_len rfl B.len (by decide +kernel) (pr_cons (py_var 0) pr_nil))) (py_of px_int) (nomark _)))))))) (pd_one (pd_ret (px_neg px_int))) pd_nil)
  (pd_cons (pd_set 1 sc_number.nd px_int)
  (pd_cons (pd_for rfl (pi_seq (px_var 0)) (pgd_name 2 sc_number.nd) (pd_cons (pd_if (pb_cmp (d_notIn (hu65 hr)) (py_var 2) (py_of px_str) rfl) (pd_one (pd_ret (px_neg px_int))) pd_nil)
  (pd_one (pd_set 1 sc_number.nd (px_op d_add (py_of (px_op d_mulI (py_var 1) (py_of px_int))) (py_of (px_mt PySem.F.plainAttrs_str PySem.F.slot_str_index PySem.F.type_str_index (by exact mt_sindex) (py_of px_str) (pr_cons (py_var 2) pr_nil))))))))
  (pd_one (pd_ret (px_var 1))))))
abbrev s_read : Stmt := top 25
def y1_read : M D := (eVar 9)
def t2_read : M Bool := (bOr (bE (eOp ltD (oVar 9) (oVa (eCst (.int 0))))) (bE (eOp gtD (oVar 9) (oVa (eCst (.int 399))))))
def y3_read : M D := (eCall [false] den_number (aCons (oVa (eVar 8)) aNil))
def b4_read : M Fl := (sSeq (sSet 6 (eBi minD (aCons (oVa (eCst (.int 20))) (aCons (oVa (eOp subD (oVar 3) (oVa (eBi lenD (aCons (oVar 4) aNil))))) aNil))))
  (sSeq (sSet 7 (nLc (iD (eMt "str" splitD (oVa (eOp ixD (oVar 1) (oVar 5))) (aCons (oVa (eCst (.str " "))) aNil))) [8] (gN 8) bYes y3_read))
  (sSeq (sIf (bOr (bE (eOp neD (oVa (eBi lenD (aCons (oVar 7) aNil))) (oVar 6))) (bE (eOp gtD (oVa (eBi lenD (aCons (oVa (nLc (iD (eVar 7)) [9] (gN 9) t2_read y1_read)) aNil))) (oVa (eCst (.int 0)))))) (sRet (nLst (aCons (oVa (eOp addD (oVar 5) (oVa (eCst (.int 1))))) aNil))) sNil)
  (sSet 4 (eOp addD (oVar 4) (oVar 7))))))
def ev_read : M Fl := (sSeq (sSet 1 (eMt "str" splitD (oVar 0) (aCons (oVa (eCst (.str "\n"))) aNil)))
  (sSeq (sSet 2 (eMt "str" splitD (oVa (eOp ixD (oVar 1) (oVa (eCst (.int 0))))) (aCons (oVa (eCst (.str " "))) aNil)))
  (sSeq (sIf (bOr (bE (eOp neD (oVa (eBi lenD (aCons (oVar 2) aNil))) (oVa (eCst (.int 3))))) (bOr (bE (eOp neD (oVa (eOp ixD (oVar 2) (oVa (eCst (.int 0))))) (oVa (eCst (.str "paper"))))) (bOr (bE (eOp (inD true) (oVa (eOp ixD (oVar 2) (oVa (eCst (.int 1))))) (oVa (nLst (aCons (oVa (eCst (.str "yes"))) (aCons (oVa (eCst (.str "no"))) (aCons (oVa (eCst (.str "taken"))) (aCons (oVa (eCst (.str "never"))) aNil)))))))) (bE (eOp ltD (oVa (eCall [false] den_number (aCons (oVa (eOp ixD (oVar 2) (oVa (eCst (.int 2))))) aNil))) (oVa (eCst (.int 0)))))))) (sRet (nLst (aCons (oVa (eCst (.int 1))) aNil))) sNil)
  (sSeq (sSet 3 (eCall [false] den_number (aCons (oVa (eOp ixD (oVar 2) (oVa (eCst (.int 2))))) aNil)))
  (sSeq (sSet 4 (nLst aNil))
  (sSeq (sFor (iRg2 (aCons (oVa (eCst (.int 1))) (aCons (oVa (eBi lenD (aCons (oVar 1) aNil))) aNil))) (gN 5) b4_read)
  (sSeq (sIf (bE (eOp ltD (oVa (eBi lenD (aCons (oVar 4) aNil))) (oVar 3))) (sRet (nLst (aCons (oVa (eOp addD (oVa (eBi lenD (aCons (oVar 1) aNil))) (oVa (eCst (.int 1))))) aNil))) sNil)
  (sRet (nLst (aCons (oVa (eOp ixD (oVar 2) (oVa (eCst (.int 1))))) (aCons (oVa (eBi tupD (aCons (oVar 4) aNil))) aNil)))))))))))
def den_read : List D → DR := runD [false] 10 ev_read
theorem sc_read : FnScope ["_law_text", "_law_lines", "_law_head", "_law_many", "_law_letters", "_law_k", "_law_due", "_law_found", "_law_word", "_law_one"] ["_law_text"] (defScope s_read) := ⟨rfl, rfl, rfl, by decide +kernel, rfl, by decide +kernel, by decide +kernel⟩
set_option maxHeartbeats 8000000 in
theorem ok_read (T : TopFn K mg "_law_read" s_read) (B : Bt K mg) (G_number : DefOk P w K mg base 1 "_law_number" [false] den_number) : DefOk P w K mg base 2 "_law_read" [false] den_read := by
  refine defOk_mk (N := ["_law_text", "_law_lines", "_law_head", "_law_many", "_law_letters", "_law_k", "_law_due", "_law_found", "_law_word", "_law_one"]) (ps := ["_law_text"]) T sc_read rfl (by decide) (fun _ _ _ _ _ _ us hl => match us, hl with | [_], _ => rfl) fun f cdv A outer s H E0 hr => ?_
  refine (pd_cons (pd_set 1 sc_read.nd (px_mt PySem.F.plainAttrs_str PySem.F.slot_str_split PySem.F.type_str_split (by exact mt_split') (py_var 0) (pr_cons (py_of px_str) pr_nil)))
  (pd_cons (pd_set 2 sc_read.nd (px_mt PySem.F.plainAttrs_str PySem.F.slot_str_split PySem.F.type_str_split (by exact mt_split') (py_of (px_ix d_ix (py_var 1) (py_of px_int))) (pr_cons (py_of px_str) pr_nil)))
  (pd_cons (pd_if (pb_w (pbw_or (pb_cmp (d_ne (hu64 hr)) (py_of (px_bi d_len rfl B.len (by decide +kernel) (pr_cons (py_var 2) pr_nil))) (py_of px_int) (nomark _)) (pbw_or (pb_cmp (d_ne (hu64 hr)) (py_of (px_ix d_ix (py_var 2) (py_of px_int))) (py_of px_str) (nomark _)) (pbw_or (pb_cmp (d_notIn (hu65 hr)) (py_of (px_ix d_ix (py_var 2) (py_of px_int))) (py_of (px_new (pn_lst (pr_cons (py_of px_str) (pr_cons (py_of px_str) (pr_cons (py_of px_str) (pr_cons (py_of px_str) pr_nil))))))) rfl) (pbw_or1 (pb_cmp d_lt (py_of (px_call (by exact G_number) (by exact hr.mono (by decide)) (pr_cons (py_of (px_ix d_ix (py_var 2) (py_of px_int))) pr_nil))) (py_of px_int) (nomark _))))))) (pd_one (pd_ret (px_new (pn_lst (pr_cons (py_of px_int) pr_nil))))) pd_nil)
  (pd_cons (pd_set 3 sc_read.nd (px_call (by exact G_number) (by exact hr.mono (by decide)) (pr_cons (py_of (px_ix d_ix (py_var 2) (py_of px_int))) pr_nil)))
  (pd_cons (pd_set 4 sc_read.nd (px_new (pn_lst pr_nil)))
  (pd_cons (pd_for rfl (pi_rg2 (pr_cons (py_of px_int) (pr_cons (py_of (px_bi d_len rfl B.len (by decide +kernel) (pr_cons (py_var 1) pr_nil))) pr_nil)) B.range) (pgd_name 5 sc_read.nd) (pd_cons (pd_set 6 sc_read.nd (px_bi (by exact d_min rfl) rfl B.min (by decide +kernel) (pr_cons (py_of px_int) (pr_cons (py_of (px_op d_sub (py_var 3) (py_of (px_bi d_len rfl B.len (by decide +kernel) (pr_cons (py_var 4) pr_nil))))) pr_nil))))
  (pd_cons (pd_lcS (own := [("_law_word", 8)]) 7 sc_read.nd rfl (pi_seq (px_mt PySem.F.plainAttrs_str PySem.F.slot_str_split PySem.F.type_str_split (by exact mt_split') (py_of (px_ix d_ix (py_var 1) (py_var 5))) (pr_cons (py_of px_str) pr_nil))) (by exact blkOk_by (N := ["_law_text", "_law_lines", "_law_head", "_law_many", "_law_letters", "_law_k", "_law_due", "_law_found", "_law_word", "_law_one"]) (sc := defScope s_read) (by decide +kernel)) (sw_true rfl rfl rfl (by decide +kernel)) (fun _ _ _ _ _ => (pgd_name 8 sc_read.nd)) (fun _ _ _ _ _ => ptd_nil) (fun _ _ _ _ _ => (px_call (by exact G_number) (by exact hr.mono (by decide)) (pr_cons (py_of (px_var 8)) pr_nil))))
  (pd_cons (pd_if (pb_w (pbw_or (pb_cmp (d_ne (hu64 hr)) (py_of (px_bi d_len rfl B.len (by decide +kernel) (pr_cons (py_var 7) pr_nil))) (py_var 6) (nomark _)) (pbw_or1 (pb_cmp d_gt (py_of (px_bi d_len rfl B.len (by decide +kernel) (pr_cons (py_of (px_new ?c1)) pr_nil))) (py_of px_int) (nomark _))))) (pd_one (pd_ret (px_new (pn_lst (pr_cons (py_of (px_op d_add (py_var 5) (py_of px_int))) pr_nil))))) pd_nil)
  (pd_one (pd_set 4 sc_read.nd (px_op d_add (py_var 4) (py_var 7))))))))
  (pd_cons (pd_if (pb_cmp d_lt (py_of (px_bi d_len rfl B.len (by decide +kernel) (pr_cons (py_var 4) pr_nil))) (py_var 3) (nomark _)) (pd_one (pd_ret (px_new (pn_lst (pr_cons (py_of (px_op d_add (py_of (px_bi d_len rfl B.len (by decide +kernel) (pr_cons (py_var 1) pr_nil))) (py_of px_int))) pr_nil))))) pd_nil)
  (pd_one (pd_ret (px_new (pn_lst (pr_cons (py_of (px_ix d_ix (py_var 2) (py_of px_int))) (pr_cons (py_of (px_ty d_tup rfl B.tuple (by decide +kernel) (pr_cons (py_var 4) pr_nil))) pr_nil)))))))))))))
  case c1 => exact pn_lc (own := [("_law_one", 9)]) sc_read.nd rfl (pi_seq (px_var 7)) (by exact blkOk_by (N := ["_law_text", "_law_lines", "_law_head", "_law_many", "_law_letters", "_law_k", "_law_due", "_law_found", "_law_word", "_law_one"]) (sc := defScope s_read) (by decide +kernel)) (fun _ _ _ _ _ => (pgd_name 9 sc_read.nd)) (fun _ _ _ _ _ => (ptd_one (pb_w (pbw_or (pb_cmp d_lt (py_var 9) (py_of px_int) (nomark _)) (pbw_or1 (pb_cmp d_gt (py_var 9) (py_of px_int) (nomark _))))))) (fun _ _ _ _ _ => (px_var 9))
abbrev s_refusal : Stmt := top 28
def b1_refusal : M Fl := (sExp (eCall [false] den_read_paper (aCons (oVa (eVar 0)) aNil)))
def h2_refusal : M Fl := (sRet (eNeg (eCst (.int 1))))
def h3_refusal : M Fl := (sSeq (sIf (bOr (bE (eIs c_BadLetter_BadSide_BadText (oVar 1))) (bOr (bNot (bE (eIs c_OnceError (oVar 1)))) (bNot (bE (eIs c_ValueError (oVar 1)))))) (sRet (eNeg (eCst (.int 1)))) sNil)
  (sIf (bE (eCall [false] den_whole (aCons (oVa (eFldX ok_line "line" (eVar 1))) aNil))) (sRet (eFldX ok_line "line" (eVar 1))) sNil))
def ev_refusal : M Fl := (sSeq (sTryN b1_refusal ((lkS hw_BadNote, some 1, h3_refusal) :: ((lkS hw_OnceError, none, h2_refusal) :: [])))
  (sRet (eNeg (eCst (.int 1)))))
def den_refusal : List D → DR := runD [false] 2 ev_refusal
theorem sc_refusal : FnScope ["_law_text", "e"] ["_law_text"] (defScope s_refusal) := ⟨rfl, rfl, rfl, by decide +kernel, rfl, by decide +kernel, by decide +kernel⟩
set_option maxHeartbeats 8000000 in
theorem ok_refusal (T : TopFn K mg "_law_refusal" s_refusal) (B : Bt K mg) (E : Ex P w K mg base) (G_read_paper : DefOk P w K mg base 4 "read_paper" [false] den_read_paper) (G_whole : DefP GT P w K mg base 1 "_law_whole" [false] den_whole) : DefOk P w K mg base 5 "_law_refusal" [false] den_refusal := by
  refine defOk_mk (N := ["_law_text", "e"]) (ps := ["_law_text"]) T sc_refusal rfl (by decide) (fun _ _ _ _ _ _ us hl => match us, hl with | [_], _ => rfl) fun f cdv A outer s H E0 hr => ?_
  exact (pd_cons (pd_tryN sc_refusal.nd (fun _ _ => (pd_one (pd_exp (px_call (by exact G_read_paper) (by exact hr.mono (by decide)) (pr_cons (py_of (px_var 0)) pr_nil))))) (.named 1 E.h_BadNote (fun _ _ => (pd_cons (pd_if (pb_w (pbw_or (pb_val (px_isU (by exact E.u_BadLetter_BadSide_BadText) (py_var 1) (pcl_own (by exact E.o_BadLetter) (pcl_own (by exact E.o_BadSide) (pcl_own (by exact E.o_BadText) pcl_nil))) (by exact B.isinstance) (by exact Nat.le_of_ble_eq_true rfl))) (pbw_or (pb_not (pb_val (px_isO E.i_OnceError (py_var 1) B.isinstance))) (pbw_or1 (pb_not (pb_val (px_isT (T := "ValueError") E.i_ValueError (py_var 1) B.ValueError B.isinstance (by decide +kernel)))))))) (pd_one (pd_ret (px_neg px_int))) pd_nil)
  (pd_one (pd_if (pb_val (px_callP (by exact G_whole) (by exact trivial) (by exact roomS (hr.mono (by decide))) (pr_cons (py_of (px_fldX E.f_line (px_var 1))) pr_nil))) (pd_one (pd_ret (px_fldX E.f_line (px_var 1)))) pd_nil)))) (.bare E.h_OnceError (fun _ _ => (pd_one (pd_ret (px_neg px_int)))) .nil)))
  (pd_one (pd_ret (px_neg px_int))))
abbrev s_side_refused : Stmt := top 29
def b1_side_refused : M Fl := (sExp (eCall [false, false] den_write_paper (aCons (oVa (eVar 0)) (aCons (oVa (eVar 1)) aNil))))
def h2_side_refused : M Fl := (sRet (eCst (.bl false)))
def h3_side_refused : M Fl := (sSeq (sIf (bOr (bE (eIs c_BadLetter_BadNote (oVar 2))) (bOr (bNot (bE (eIs c_OnceError (oVar 2)))) (bNot (bE (eIs c_ValueError (oVar 2)))))) (sRet (eCst (.bl false))) sNil)
  (sRet (eAnd (eIs c_str (oVa (eFldX ok_side "side" (eVar 2)))) (eOp eqD (oVa (eFldX ok_side "side" (eVar 2))) (oVar 0)))))
def ev_side_refused : M Fl := (sSeq (sTryN b1_side_refused ((lkS hw_BadSide, some 2, h3_side_refused) :: ((lkS hw_OnceError, none, h2_side_refused) :: [])))
  (sRet (eCst (.bl false))))
def den_side_refused : List D → DR := runD [false, false] 3 ev_side_refused
theorem sc_side_refused : FnScope ["_law_word", "_law_letters", "e"] ["_law_word", "_law_letters"] (defScope s_side_refused) := ⟨rfl, rfl, rfl, by decide +kernel, rfl, by decide +kernel, by decide +kernel⟩
set_option maxHeartbeats 8000000 in
theorem ok_side_refused (T : TopFn K mg "_law_side_refused" s_side_refused) (B : Bt K mg) (E : Ex P w K mg base) (G_write_paper : DefOk P w K mg base 3 "write_paper" [false, false] den_write_paper) : DefOk P w K mg base 4 "_law_side_refused" [false, false] den_side_refused := by
  refine defOk_mk (N := ["_law_word", "_law_letters", "e"]) (ps := ["_law_word", "_law_letters"]) T sc_side_refused rfl (by decide) (fun _ _ _ _ _ _ us hl => match us, hl with | [_, _], _ => rfl) fun f cdv A outer s H E0 hr => ?_
  exact (pd_cons (pd_tryN sc_side_refused.nd (fun _ _ => (pd_one (pd_exp (px_call (by exact G_write_paper) (by exact hr.mono (by decide)) (pr_cons (py_of (px_var 0)) (pr_cons (py_of (px_var 1)) pr_nil)))))) (.named 2 E.h_BadSide (fun _ _ => (pd_cons (pd_if (pb_w (pbw_or (pb_val (px_isU (by exact E.u_BadLetter_BadNote) (py_var 2) (pcl_own (by exact E.o_BadLetter) (pcl_own (by exact E.o_BadNote) pcl_nil)) (by exact B.isinstance) (by exact Nat.le_of_ble_eq_true rfl))) (pbw_or (pb_not (pb_val (px_isO E.i_OnceError (py_var 2) B.isinstance))) (pbw_or1 (pb_not (pb_val (px_isT (T := "ValueError") E.i_ValueError (py_var 2) B.ValueError B.isinstance (by decide +kernel)))))))) (pd_one (pd_ret px_bl)) pd_nil)
  (pd_one (pd_ret (px_and (px_isT (T := "str") E.i_str (py_of (px_fldX E.f_side (px_var 2))) B.str B.isinstance (by decide +kernel)) (px_one (px_cmp (d_eq (by have z := hu64 hr; exact z)) (py_of (px_fldX E.f_side (px_var 2))) (py_var 0) (nomark _)))))))) (.bare E.h_OnceError (fun _ _ => (pd_one (pd_ret px_bl))) .nil)))
  (pd_one (pd_ret px_bl)))
abbrev s_letter_refused : Stmt := top 30
def b1_letter_refused : M Fl := (sExp (eCall [false, false] den_write_paper (aCons (oVa (eVar 0)) (aCons (oVa (eVar 1)) aNil))))
def h2_letter_refused : M Fl := (sRet (eCst (.bl false)))
def h3_letter_refused : M Fl := (sSeq (sIf (bOr (bE (eIs c_BadSide_BadNote (oVar 3))) (bOr (bNot (bE (eIs c_OnceError (oVar 3)))) (bNot (bE (eIs c_ValueError (oVar 3)))))) (sRet (eCst (.bl false))) sNil)
  (sRet (eOp eqD (oVa (eBi reprD (aCons (oVa (eFldX ok_letter "letter" (eVar 3))) aNil))) (oVa (eBi reprD (aCons (oVar 2) aNil))))))
def ev_letter_refused : M Fl := (sSeq (sTryN b1_letter_refused ((lkS hw_BadLetter, some 3, h3_letter_refused) :: ((lkS hw_OnceError, none, h2_letter_refused) :: [])))
  (sRet (eCst (.bl false))))
def den_letter_refused : List D → DR := runD [false, false, false] 4 ev_letter_refused
theorem sc_letter_refused : FnScope ["_law_word", "_law_letters", "_law_due", "e"] ["_law_word", "_law_letters", "_law_due"] (defScope s_letter_refused) := ⟨rfl, rfl, rfl, by decide +kernel, rfl, by decide +kernel, by decide +kernel⟩
set_option maxHeartbeats 8000000 in
theorem ok_letter_refused (T : TopFn K mg "_law_letter_refused" s_letter_refused) (B : Bt K mg) (E : Ex P w K mg base) (G_write_paper : DefOk P w K mg base 3 "write_paper" [false, false] den_write_paper) : DefP GK P w K mg base 4 "_law_letter_refused" [false, false, false] den_letter_refused := by
  refine defG_mk (N := ["_law_word", "_law_letters", "_law_due", "e"]) (ps := ["_law_word", "_law_letters", "_law_due"]) T sc_letter_refused rfl (by decide) (fun _ _ _ _ _ _ us hl => match us, hl with | [_, _, _], _ => rfl) fun f cdv A outer s H E0 hG hr => ?_
  exact (pd_cons (pd_tryN sc_letter_refused.nd (fun _ _ => (pd_one (pd_exp (px_call (by exact G_write_paper) (by exact hr.mono (by decide)) (pr_cons (py_of (px_var 0)) (pr_cons (py_of (px_var 1)) pr_nil)))))) (.named 3 E.h_BadLetter (fun _ _ => (pd_cons (pd_if (pb_w (pbw_or (pb_val (px_isU (by exact E.u_BadSide_BadNote) (py_var 3) (pcl_own (by exact E.o_BadSide) (pcl_own (by exact E.o_BadNote) pcl_nil)) (by exact B.isinstance) (by exact Nat.le_of_ble_eq_true rfl))) (pbw_or (pb_not (pb_val (px_isO E.i_OnceError (py_var 3) B.isinstance))) (pbw_or1 (pb_not (pb_val (px_isT (T := "ValueError") E.i_ValueError (py_var 3) B.ValueError B.isinstance (by decide +kernel)))))))) (pd_one (pd_ret px_bl)) pd_nil)
  (pd_one (pd_ret (px_cmp (d_eq (by have z := hu64 hr; exact z)) (py_of (px_bi (by exact d_repr (by have z := hG.2; exact z) (by have z := hu64 hr; exact z)) rfl B.repr (by decide +kernel) (pr_cons (py_of (px_fldX E.f_letter (px_var 3))) pr_nil))) (py_of (px_bi (by exact d_repr (by have z := hG.2; exact z) (by have z := hu64 hr; exact z)) rfl B.repr (by decide +kernel) (pr_cons (py_var 2) pr_nil))) (nomark _)))))) (.bare E.h_OnceError (fun _ _ => (pd_one (pd_ret px_bl))) .nil)))
  (pd_one (pd_ret px_bl)))
abbrev s_law : Stmt := top 33
def b1_law : M Fl := (sSeq (sSet 7 (eCall [false, false] den_changed (aCons (oVa (eVar 7)) (aCons (oVa (eCall [false, false] den_digits (aCons (oVa (eCall [false, false] den_cell (aCons (oVa (eVar 0)) (aCons (oVa (eOp addD (oVa (eCst (.int 2))) (oVar 8))) aNil)))) (aCons (oVa (nLst (aCons (oVa (eCst (.int 14))) (aCons (oVa (eCst (.int 997))) (aCons (oVa (eCst (.int 997))) (aCons (oVa (eCst (.int 60))) (aCons (oVa (eCst (.int 60))) (aCons (oVa (eCst (.int 1200))) aNil)))))))) aNil)))) aNil))))
  (sSeq (sSet 9 (eCall [false] den_read (aCons (oVa (eVar 7)) aNil)))
  (sSeq (sIf (bAnd (bE (eOp eqD (oVa (eBi lenD (aCons (oVar 9) aNil))) (oVa (eCst (.int 1))))) (bE (eOp neD (oVa (eCall [false] den_refusal (aCons (oVa (eVar 7)) aNil))) (oVa (eOp ixD (oVar 9) (oVa (eCst (.int 0)))))))) (sRet (eCst (.bl false))) sNil)
  (sIf (bAnd (bE (eOp eqD (oVa (eBi lenD (aCons (oVar 9) aNil))) (oVa (eCst (.int 2))))) (bOr (bNot (bE (eCall [false, false, false] den_reads (aCons (oVa (eVar 7)) (aCons (oVa (eOp ixD (oVar 9) (oVa (eCst (.int 0))))) (aCons (oVa (eOp ixD (oVar 9) (oVa (eCst (.int 1))))) aNil)))))) (bE (eOp neD (oVa (eCall [false, false] den_write_paper (aCons (oVa (eOp ixD (oVar 9) (oVa (eCst (.int 0))))) (aCons (oVa (eOp ixD (oVar 9) (oVa (eCst (.int 1))))) aNil)))) (oVar 7))))) (sRet (eCst (.bl false))) sNil))))
def y2_law : M D := (eOp modD (oVa (eBi intD (aCons (oVa (eOp addD (oVa (eOp ixD (oVar 3) (oVa (eOp modD (oVar 15) (oVa (eCst (.int 60))))))) (oVa (eOp mulI (oVa (eOp divD (oVar 15) (oVa (eCst (.int 60))))) (oVa (eCst (.int 7))))))) aNil))) (oVa (eCst (.int 400))))
def y3_law : M D := (eCst (.int 400))
def ev_law : M Fl := (sSeq (sSet 1 (eCall [false, false] den_digits (aCons (oVa (eCall [false, false] den_cell (aCons (oVa (eVar 0)) (aCons (oVa (eCst (.int 0))) aNil)))) (aCons (oVa (nLst (aCons (oVa (eCst (.int 61))) (aCons (oVa (eCst (.int 12))) (aCons (oVa (eCst (.int 4))) (aCons (oVa (eCst (.int 60))) (aCons (oVa (eCst (.int 30))) (aCons (oVa (eCst (.int 1001))) (aCons (oVa (eCst (.int 60))) aNil))))))))) aNil))))
  (sSeq (sSet 2 (eOp ixD (oVa (nLst (aCons (oVa (eOp ixD (oVar 1) (oVa (eCst (.int 0))))) (aCons (oVa (eOp ixD (oVar 1) (oVa (eCst (.int 0))))) (aCons (oVa (eOp ixD (oVar 1) (oVa (eCst (.int 0))))) (aCons (oVa (eOp ixD (oVar 1) (oVa (eCst (.int 0))))) (aCons (oVa (eCst (.int 19))) (aCons (oVa (eCst (.int 20))) (aCons (oVa (eCst (.int 21))) (aCons (oVa (eCst (.int 39))) (aCons (oVa (eCst (.int 40))) (aCons (oVa (eCst (.int 41))) (aCons (oVa (eOp ixD (oVar 1) (oVa (eCst (.int 0))))) (aCons (oVa (eOp ixD (oVa (nLst (aCons (oVa (eCst (.int 400))) (aCons (oVa (eCst (.int 1001))) aNil)))) (oVa (eOp modD (oVa (eBi intD (aCons (oVa (eOp ixD (oVar 1) (oVa (eCst (.int 3))))) aNil))) (oVa (eCst (.int 2))))))) aNil)))))))))))))) (oVa (eOp ixD (oVar 1) (oVa (eCst (.int 1)))))))
  (sSeq (sSet 3 (eCall [false, false] den_digits (aCons (oVa (eCall [false, false] den_cell (aCons (oVa (eVar 0)) (aCons (oVa (eCst (.int 1))) aNil)))) (aCons (oVa (nLc (iRg1 (aCons (oVa (eCst (.int 60))) aNil)) [15] (gN 15) bYes y3_law)) aNil))))
  (sSeq (sSet 4 (eBi tupD (aCons (oVa (nLc (iRg1 (aCons (oVar 2) aNil)) [15] (gN 15) bYes y2_law)) aNil)))
  (sSeq (sSet 5 (eOp ixD (oVa (nLst (aCons (oVa (eCst (.str "yes"))) (aCons (oVa (eCst (.str "no"))) (aCons (oVa (eCst (.str "taken"))) (aCons (oVa (eCst (.str "never"))) aNil)))))) (oVa (eOp ixD (oVar 1) (oVa (eCst (.int 2)))))))
  (sSeq (sSet 6 (eCall [false, false] den_written (aCons (oVa (eVar 5)) (aCons (oVa (eVar 4)) aNil))))
  (sSeq (sIf (bNot (bE (eCall [false, false, false] den_good (aCons (oVa (eVar 5)) (aCons (oVa (eVar 4)) (aCons (oVa (eVar 6)) aNil)))))) (sRet (eCst (.bl false))) sNil)
  (sSeq (sIf (bOr (bE (eOp neD (oVa (eCall [false] den_refusal (aCons (oVa (eOp addD (oVar 6) (oVa (eCst (.str "\n"))))) aNil))) (oVa (eOp addD (oVa (eCst (.int 2))) (oVa (eOp divD (oVa (eOp addD (oVar 2) (oVa (eCst (.int 19))))) (oVa (eCst (.int 20))))))))) (bE (eOp neD (oVa (eCall [false] den_refusal (aCons (oVa (eOp addD (oVa (eCst (.str "\n"))) (oVar 6))) aNil))) (oVa (eCst (.int 1)))))) (sRet (eCst (.bl false))) sNil)
  (sSeq (sSet 7 (eVar 6))
  (sSeq (sFor (iRg1 (aCons (oVa (eOp addD (oVa (eCst (.int 1))) (oVa (eOp modD (oVa (eBi intD (aCons (oVa (eOp ixD (oVar 1) (oVa (eCst (.int 3))))) aNil))) (oVa (eCst (.int 3))))))) aNil)) (gN 8) b1_law)
  (sSeq (sSet 10 (eOp ixD (oVa (nLst (aCons (oVa (eCst (.str "Yes"))) (aCons (oVa (eCst (.str ""))) (aCons (oVa (eCst (.str "no "))) (aCons (oVa (eCst (.str "takes"))) (aCons (oVa (eCst (.str "maybe"))) (aCons (oVa (eCst (.str "paper"))) (aCons (oVa (eCst (.str "1"))) (aCons (oVa (eCst (.str "yes no"))) (aCons (oVa (eCst (.str "neve"))) (aCons (oVa (eCst (.str "nevers"))) aNil)))))))))))) (oVa (eOp modD (oVa (eBi intD (aCons (oVa (eOp ixD (oVar 1) (oVa (eCst (.int 4))))) aNil))) (oVa (eCst (.int 10)))))))
  (sSeq (sSet 11 (eOp ixD (oVa (nLst (aCons (oVa (eNeg (eCst (.int 1)))) (aCons (oVa (eCst (.int 400))) (aCons (oVa (eOp powD (oVa (eCst (.int 10))) (oVa (eCst (.int 30))))) (aCons (oVa (eNeg (eOp powD (oVa (eCst (.int 10))) (oVa (eCst (.int 30)))))) (aCons (oVa (eCst (.int 401))) (aCons (oVa (eNeg (eCst (.int 399)))) (aCons (oVa (eCst .non)) (aCons (oVa (eCst (.bl true))) (aCons (oVa (eCst (.bl false))) (aCons (oVa (eCst (.str "7"))) (aCons (oVa (nLst (aCons (oVa (eCst (.int 1))) aNil))) (aCons (oVa (eTup (aCons (oVa (eCst (.int 0))) aNil))) (aCons (oVa (eCst (.str ""))) (aCons (oVa (eCst (.str "yes"))) aNil)))))))))))))))) (oVa (eOp modD (oVa (eOp divD (oVa (eBi intD (aCons (oVa (eOp ixD (oVar 1) (oVa (eCst (.int 6))))) aNil))) (oVa (eCst (.int 2))))) (oVa (eCst (.int 14)))))))
  (sSeq (sSet 12 (eOp ixD (oVa (nLst (aCons (oVa (eCst (.int 400))) (aCons (oVa (eNeg (eCst (.int 1)))) (aCons (oVa (eCst .non)) aNil))))) (oVa (eOp divD (oVa (eBi intD (aCons (oVa (eOp ixD (oVar 1) (oVa (eCst (.int 4))))) aNil))) (oVa (eCst (.int 10)))))))
  (sSeq (sSet 13 (eOp modD (oVa (eBi intD (aCons (oVa (eOp ixD (oVar 1) (oVa (eCst (.int 5))))) aNil))) (oVa (eOp addD (oVar 2) (oVa (eCst (.int 1)))))))
  (sSeq (sSet 14 (eOp addD (oVa (eOp addD (oVa (eOp addD (oVa (eSl (oVar 4) hNo (hSo (eVar 13)))) (oVa (eTup (aCons (oVa (eVar 11)) aNil))))) (oVa (eSl (oVar 4) (hSo (eVar 13)) hNo)))) (oVa (eOp mulT (oVa (eTup (aCons (oVa (eVar 12)) aNil))) (oVa (eBi intD (aCons (oVa (eOp modD (oVa (eBi intD (aCons (oVa (eOp ixD (oVar 1) (oVa (eCst (.int 6))))) aNil))) (oVa (eCst (.int 2))))) aNil)))))))
  (sSeq (sIf (bOr (bNot (bE (eCall [false, false] den_side_refused (aCons (oVa (eVar 10)) (aCons (oVa (eVar 4)) aNil))))) (bNot (bE (eCall [false, false] den_side_refused (aCons (oVa (eVar 10)) (aCons (oVa (eVar 14)) aNil)))))) (sRet (eCst (.bl false))) sNil)
  (sSeq (sIf (bOr (bNot (bE (eCall [false, false, false] den_letter_refused (aCons (oVa (eVar 5)) (aCons (oVa (eVar 14)) (aCons (oVa (eVar 11)) aNil)))))) (bNot (bE (eCall [false, false, false] den_letter_refused (aCons (oVa (eVar 5)) (aCons (oVa (eBi listD (aCons (oVar 14) aNil))) (aCons (oVa (eVar 11)) aNil))))))) (sRet (eCst (.bl false))) sNil)
  (sRet (eCall [false, false, false] den_good (aCons (oVa (eVar 5)) (aCons (oVa (eVar 4)) (aCons (oVa (eVar 6)) aNil))))))))))))))))))))))
def den_law : List D → DR := runD [false] 16 ev_law
theorem sc_law : FnScope ["_law_script", "_law_row", "_law_many", "_law_cells", "_law_letters", "_law_word", "_law_text", "_law_changed_here", "_law_turn", "_law_due", "_law_other", "_law_odd", "_law_last", "_law_place", "_law_bad", "_law_k"] ["_law_script"] (defScope s_law) := ⟨rfl, rfl, rfl, by decide +kernel, rfl, by decide +kernel, by decide +kernel⟩
set_option maxHeartbeats 8000000 in
theorem ok_law (T : TopFn K mg "law" s_law) (B : Bt K mg) (G_good : ∀ base, DefOk P w K mg base 8 "_law_good" [false, false, false] den_good) (G_letter_refused : ∀ base, DefP GK P w K mg base 4 "_law_letter_refused" [false, false, false] den_letter_refused) (G_side_refused : ∀ base, DefOk P w K mg base 4 "_law_side_refused" [false, false] den_side_refused) (G_write_paper : ∀ base, DefOk P w K mg base 3 "write_paper" [false, false] den_write_paper) (G_reads : ∀ base, DefOk P w K mg base 7 "_law_reads" [false, false, false] den_reads) (G_refusal : ∀ base, DefOk P w K mg base 5 "_law_refusal" [false] den_refusal) (G_read : ∀ base, DefOk P w K mg base 2 "_law_read" [false] den_read) (G_changed : ∀ base, DefOk P w K mg base 2 "_law_changed" [false, false] den_changed) (G_digits : ∀ base, DefOk P w K mg base 1 "_law_digits" [false, false] den_digits) (G_cell : ∀ base, DefOk P w K mg base 1 "_law_cell" [false, false] den_cell) (G_written : ∀ base, DefOk P w K mg base 1 "_law_written" [false, false] den_written) : LawP P w K mg 9 "_law_script" den_law := by
  refine lawG_mk (N := ["_law_script", "_law_row", "_law_many", "_law_cells", "_law_letters", "_law_word", "_law_text", "_law_changed_here", "_law_turn", "_law_due", "_law_other", "_law_odd", "_law_last", "_law_place", "_law_bad", "_law_k"]) T sc_law (by decide) (fun _ _ _ _ _ _ us hl => match us, hl with | [_], _ => rfl) fun base f cdv A outer s H E0 hG hr => ?_
  have G_good := G_good base
  have G_letter_refused := G_letter_refused base
  have G_side_refused := G_side_refused base
  have G_write_paper := G_write_paper base
  have G_reads := G_reads base
  have G_refusal := G_refusal base
  have G_read := G_read base
  have G_changed := G_changed base
  have G_digits := G_digits base
  have G_cell := G_cell base
  have G_written := G_written base
  refine (pd_cons (pd_set 1 sc_law.nd (px_call (by exact G_digits) (by exact hr.mono (by decide)) (pr_cons (py_of (px_call (by exact G_cell) (by exact hr.mono (by decide)) (pr_cons (py_of (px_var 0)) (pr_cons (py_of px_int) pr_nil)))) (pr_cons (py_of (px_new (pn_lst (pr_cons (py_of px_int) (pr_cons (py_of px_int) (pr_cons (py_of px_int) (pr_cons (py_of px_int) (pr_cons (py_of px_int) (pr_cons (py_of px_int) (pr_cons (py_of px_int) pr_nil)))))))))) pr_nil))))
  (pd_cons (pd_set 2 sc_law.nd (px_ix d_ix (py_of (px_new (pn_lst (pr_cons (py_of (px_ix d_ix (py_var 1) (py_of px_int))) (pr_cons (py_of (px_ix d_ix (py_var 1) (py_of px_int))) (pr_cons (py_of (px_ix d_ix (py_var 1) (py_of px_int))) (pr_cons (py_of (px_ix d_ix (py_var 1) (py_of px_int))) (pr_cons (py_of px_int) (pr_cons (py_of px_int) (pr_cons (py_of px_int) (pr_cons (py_of px_int) (pr_cons (py_of px_int) (pr_cons (py_of px_int) (pr_cons (py_of (px_ix d_ix (py_var 1) (py_of px_int))) (pr_cons (py_of (px_ix d_ix (py_of (px_new (pn_lst (pr_cons (py_of px_int) (pr_cons (py_of px_int) pr_nil))))) (py_of (px_op d_mod (py_of (px_ty d_int rfl B.int (by decide +kernel) (pr_cons (py_of (px_ix d_ix (py_var 1) (py_of px_int))) pr_nil))) (py_of px_int))))) pr_nil))))))))))))))) (py_of (px_ix d_ix (py_var 1) (py_of px_int)))))
  (pd_cons (pd_set 3 sc_law.nd (px_call (by exact G_digits) (by exact hr.mono (by decide)) (pr_cons (py_of (px_call (by exact G_cell) (by exact hr.mono (by decide)) (pr_cons (py_of (px_var 0)) (pr_cons (py_of px_int) pr_nil)))) (pr_cons (py_of (px_new ?c2)) pr_nil))))
  (pd_cons (pd_set 4 sc_law.nd (px_ty d_tup rfl B.tuple (by decide +kernel) (pr_cons (py_of (px_new ?c1)) pr_nil)))
  (pd_cons (pd_set 5 sc_law.nd (px_ix d_ix (py_of (px_new (pn_lst (pr_cons (py_of px_str) (pr_cons (py_of px_str) (pr_cons (py_of px_str) (pr_cons (py_of px_str) pr_nil))))))) (py_of (px_ix d_ix (py_var 1) (py_of px_int)))))
  (pd_cons (pd_set 6 sc_law.nd (px_call (by exact G_written) (by exact hr.mono (by decide)) (pr_cons (py_of (px_var 5)) (pr_cons (py_of (px_var 4)) pr_nil))))
  (pd_cons (pd_if (pb_not (pb_val (px_call (by exact G_good) (by exact hr.mono (by decide)) (pr_cons (py_of (px_var 5)) (pr_cons (py_of (px_var 4)) (pr_cons (py_of (px_var 6)) pr_nil)))))) (pd_one (pd_ret px_bl)) pd_nil)
  (pd_cons (pd_if (pb_w (pbw_or (pb_cmp (d_ne (hu64 hr)) (py_of (px_call (by exact G_refusal) (by exact hr.mono (by decide)) (pr_cons (py_of (px_op d_add (py_var 6) (py_of px_str))) pr_nil))) (py_of (px_op d_add (py_of px_int) (py_of (px_op d_div (py_of (px_op d_add (py_var 2) (py_of px_int))) (py_of px_int))))) (nomark _)) (pbw_or1 (pb_cmp (d_ne (hu64 hr)) (py_of (px_call (by exact G_refusal) (by exact hr.mono (by decide)) (pr_cons (py_of (px_op d_add (py_of px_str) (py_var 6))) pr_nil))) (py_of px_int) (nomark _))))) (pd_one (pd_ret px_bl)) pd_nil)
  (pd_cons (pd_set 7 sc_law.nd (px_var 6))
  (pd_cons (pd_for rfl (pi_rg1 (pr_cons (py_of (px_op d_add (py_of px_int) (py_of (px_op d_mod (py_of (px_ty d_int rfl B.int (by decide +kernel) (pr_cons (py_of (px_ix d_ix (py_var 1) (py_of px_int))) pr_nil))) (py_of px_int))))) pr_nil) B.range) (pgd_name 8 sc_law.nd) (pd_cons (pd_set 7 sc_law.nd (px_call (by exact G_changed) (by exact hr.mono (by decide)) (pr_cons (py_of (px_var 7)) (pr_cons (py_of (px_call (by exact G_digits) (by exact hr.mono (by decide)) (pr_cons (py_of (px_call (by exact G_cell) (by exact hr.mono (by decide)) (pr_cons (py_of (px_var 0)) (pr_cons (py_of (px_op d_add (py_of px_int) (py_var 8))) pr_nil)))) (pr_cons (py_of (px_new (pn_lst (pr_cons (py_of px_int) (pr_cons (py_of px_int) (pr_cons (py_of px_int) (pr_cons (py_of px_int) (pr_cons (py_of px_int) (pr_cons (py_of px_int) pr_nil))))))))) pr_nil)))) pr_nil))))
  (pd_cons (pd_set 9 sc_law.nd (px_call (by exact G_read) (by exact hr.mono (by decide)) (pr_cons (py_of (px_var 7)) pr_nil)))
  (pd_cons (pd_if (pb_w (pbw_and (pb_cmp (d_eq (hu64 hr)) (py_of (px_bi d_len rfl B.len (by decide +kernel) (pr_cons (py_var 9) pr_nil))) (py_of px_int) (nomark _)) (pbw_and1 (pb_cmp (d_ne (hu64 hr)) (py_of (px_call (by exact G_refusal) (by exact hr.mono (by decide)) (pr_cons (py_of (px_var 7)) pr_nil))) (py_of (px_ix d_ix (py_var 9) (py_of px_int))) (nomark _))))) (pd_one (pd_ret px_bl)) pd_nil)
  (pd_one (pd_if (pb_w (pbw_and (pb_cmp (d_eq (hu64 hr)) (py_of (px_bi d_len rfl B.len (by decide +kernel) (pr_cons (py_var 9) pr_nil))) (py_of px_int) (nomark _)) (pbw_and1 (pb_w (pbw_or (pb_not (pb_val (px_call (by exact G_reads) (by exact hr.mono (by decide)) (pr_cons (py_of (px_var 7)) (pr_cons (py_of (px_ix d_ix (py_var 9) (py_of px_int))) (pr_cons (py_of (px_ix d_ix (py_var 9) (py_of px_int))) pr_nil)))))) (pbw_or1 (pb_cmp (d_ne (hu64 hr)) (py_of (px_call (by exact G_write_paper) (by exact hr.mono (by decide)) (pr_cons (py_of (px_ix d_ix (py_var 9) (py_of px_int))) (pr_cons (py_of (px_ix d_ix (py_var 9) (py_of px_int))) pr_nil)))) (py_var 7) (nomark _)))))))) (pd_one (pd_ret px_bl)) pd_nil))))))
  (pd_cons (pd_set 10 sc_law.nd (px_ix d_ix (py_of (px_new (pn_lst (pr_cons (py_of px_str) (pr_cons (py_of px_str) (pr_cons (py_of px_str) (pr_cons (py_of px_str) (pr_cons (py_of px_str) (pr_cons (py_of px_str) (pr_cons (py_of px_str) (pr_cons (py_of px_str) (pr_cons (py_of px_str) (pr_cons (py_of px_str) pr_nil))))))))))))) (py_of (px_op d_mod (py_of (px_ty d_int rfl B.int (by decide +kernel) (pr_cons (py_of (px_ix d_ix (py_var 1) (py_of px_int))) pr_nil))) (py_of px_int)))))
  (pd_cons (pd_set 11 sc_law.nd (px_ix d_ix (py_of (px_new (pn_lst (pr_cons (py_of (px_neg px_int)) (pr_cons (py_of px_int) (pr_cons (py_of (px_op d_pow (py_of px_int) (py_of px_int))) (pr_cons (py_of (px_neg (px_op d_pow (py_of px_int) (py_of px_int)))) (pr_cons (py_of px_int) (pr_cons (py_of (px_neg px_int)) (pr_cons (py_of px_non) (pr_cons (py_of px_bl) (pr_cons (py_of px_bl) (pr_cons (py_of px_str) (pr_cons (py_of (px_new (pn_lst (pr_cons (py_of px_int) pr_nil)))) (pr_cons (py_of (px_tup (pr_cons (py_of px_int) pr_nil))) (pr_cons (py_of px_str) (pr_cons (py_of px_str) pr_nil))))))))))))))))) (py_of (px_op d_mod (py_of (px_op d_div (py_of (px_ty d_int rfl B.int (by decide +kernel) (pr_cons (py_of (px_ix d_ix (py_var 1) (py_of px_int))) pr_nil))) (py_of px_int))) (py_of px_int)))))
  (pd_cons (pd_set 12 sc_law.nd (px_ix d_ix (py_of (px_new (pn_lst (pr_cons (py_of px_int) (pr_cons (py_of (px_neg px_int)) (pr_cons (py_of px_non) pr_nil)))))) (py_of (px_op d_div (py_of (px_ty d_int rfl B.int (by decide +kernel) (pr_cons (py_of (px_ix d_ix (py_var 1) (py_of px_int))) pr_nil))) (py_of px_int)))))
  (pd_cons (pd_set 13 sc_law.nd (px_op d_mod (py_of (px_ty d_int rfl B.int (by decide +kernel) (pr_cons (py_of (px_ix d_ix (py_var 1) (py_of px_int))) pr_nil))) (py_of (px_op d_add (py_var 2) (py_of px_int)))))
  (pd_cons (pd_set 14 sc_law.nd (px_op d_add (py_of (px_op d_add (py_of (px_op d_add (py_of (px_slice (py_var 4) po_no (po_so (px_var 13)))) (py_of (px_tup (pr_cons (py_of (px_var 11)) pr_nil))))) (py_of (px_slice (py_var 4) (po_so (px_var 13)) po_no)))) (py_of (px_op d_mulT (py_of (px_tup (pr_cons (py_of (px_var 12)) pr_nil))) (py_of (px_ty d_int rfl B.int (by decide +kernel) (pr_cons (py_of (px_op d_mod (py_of (px_ty d_int rfl B.int (by decide +kernel) (pr_cons (py_of (px_ix d_ix (py_var 1) (py_of px_int))) pr_nil))) (py_of px_int))) pr_nil)))))))
  (pd_cons (pd_if (pb_w (pbw_or (pb_not (pb_val (px_call (by exact G_side_refused) (by exact hr.mono (by decide)) (pr_cons (py_of (px_var 10)) (pr_cons (py_of (px_var 4)) pr_nil))))) (pbw_or1 (pb_not (pb_val (px_call (by exact G_side_refused) (by exact hr.mono (by decide)) (pr_cons (py_of (px_var 10)) (pr_cons (py_of (px_var 14)) pr_nil)))))))) (pd_one (pd_ret px_bl)) pd_nil)
  (pd_cons (pd_if (pb_w (pbw_or (pb_not (pb_val (px_callP (by exact G_letter_refused) (by exact hG) (by exact L2H.roomH_of (hr.mono (by decide))) (pr_cons (py_of (px_var 5)) (pr_cons (py_of (px_var 14)) (pr_cons (py_of (px_var 11)) pr_nil)))))) (pbw_or1 (pb_not (pb_val (px_callP (by exact G_letter_refused) (by exact hG) (by exact L2H.roomH_of (hr.mono (by decide))) (pr_cons (py_of (px_var 5)) (pr_cons (py_of (px_new (pn_ty dN_list rfl B.list (by decide +kernel) (pr_cons (py_var 14) pr_nil)))) (pr_cons (py_of (px_var 11)) pr_nil))))))))) (pd_one (pd_ret px_bl)) pd_nil)
  (pd_one (pd_ret (px_call (by exact G_good) (by exact hr.mono (by decide)) (pr_cons (py_of (px_var 5)) (pr_cons (py_of (px_var 4)) (pr_cons (py_of (px_var 6)) pr_nil)))))))))))))))))))))))
  case c1 => exact pn_lc (own := [("_law_k", 15)]) sc_law.nd rfl (pi_rg1 (pr_cons (py_var 2) pr_nil) B.range) (by exact blkOk_by (N := ["_law_script", "_law_row", "_law_many", "_law_cells", "_law_letters", "_law_word", "_law_text", "_law_changed_here", "_law_turn", "_law_due", "_law_other", "_law_odd", "_law_last", "_law_place", "_law_bad", "_law_k"]) (sc := defScope s_law) (by decide +kernel)) (fun _ _ _ _ _ => (pgd_name 15 sc_law.nd)) (fun _ _ _ _ _ => ptd_nil) (fun _ _ _ _ _ => (px_op d_mod (py_of (px_ty d_int rfl B.int (by decide +kernel) (pr_cons (py_of (px_op d_add (py_of (px_ix d_ix (py_var 3) (py_of (px_op d_mod (py_var 15) (py_of px_int))))) (py_of (px_op d_mulI (py_of (px_op d_div (py_var 15) (py_of px_int))) (py_of px_int))))) pr_nil))) (py_of px_int)))
  case c2 => exact pn_lc (own := [("_law_k", 15)]) sc_law.nd rfl (pi_rg1 (pr_cons (py_of px_int) pr_nil) B.range) (by exact blkOk_by (N := ["_law_script", "_law_row", "_law_many", "_law_cells", "_law_letters", "_law_word", "_law_text", "_law_changed_here", "_law_turn", "_law_due", "_law_other", "_law_odd", "_law_last", "_law_place", "_law_bad", "_law_k"]) (sc := defScope s_law) (by decide +kernel)) (fun _ _ _ _ _ => (pgd_name 15 sc_law.nd)) (fun _ _ _ _ _ => ptd_nil) (fun _ _ _ _ _ => px_int)
end K37
set_option Elab.async false
set_option linter.all false
set_option maxRecDepth 100000
set_option maxHeartbeats 2000000
namespace K37
open PySem PySem.Spec L2 DP
open PyProof.Rows hiding St
variable {P : Program} {w : World} {K : PySem.W.Frag} {mg : Str → Option Value} {base : Heap}
def ck0 : List Ck := [ckFree "ValueError", ckFree "all", ckFree "any", ckFree "bool", ckFree "enumerate", ckFree "int", ckFree "isinstance", ckFree "len", ckFree "list", ckFree "min", ckFree "range", ckFree "repr", ckFree "str", ckFree "tuple", xgB, ckGS "DIGITS" "0123456789", ckGI "IN_LINE" 20, ckGI "MANY" 1000000000000000000, ckGI "MOST_LETTER" 399, ckGT "SIDES" z_SIDES, ckGlo "_law_digits", ckGlo "_law_written", ckGlo "write_paper", ckGlo "_law_whole", ckGlo "_law_alike"]
def ck1 : List Ck := [ckGlo "writes_number", ckGlo "read_first", ckGlo "read_number", ckGlo "read_paper", ckGlo "_law_reads", ckGlo "_law_good", ckGlo "_law_cell", ckGlo "_law_odd_word", ckGlo "_law_changed", ckGlo "_law_number", ckGlo "_law_read", ckGlo "_law_refusal", ckGlo "_law_side_refused", ckGlo "_law_letter_refused", ckGlo "law", ckGlo "OnceError", ckGlo "BadText", ckX1 "BadText" "place", ckGlo "BadSide", ckX1 "BadSide" "side", ckGlo "BadNote", ckX1 "BadNote" "line", ckGlo "BadLetter", ckX1 "BadLetter" "letter", ckCls (fun K => .ref (He.ga K "OnceError")) bt_OnceError ow_OnceError]
def ck2 : List Ck := [ckCls (fun _ => .type "ValueError") bt_ValueError ow_ValueError, ckCls (fun _ => .type "bool") bt_bool ow_bool, ckCls (fun _ => .type "int") bt_int ow_int, ckCls (fun _ => .type "str") bt_str ow_str, ckCls (fun _ => .type "tuple") bt_tuple ow_tuple, ckClsT us_BadLetter_BadNote bt_BadLetter_BadNote ow_BadLetter_BadNote, ckClsT us_BadLetter_BadSide_BadText bt_BadLetter_BadSide_BadText ow_BadLetter_BadSide_BadText, ckClsT us_BadSide_BadNote bt_BadSide_BadNote ow_BadSide_BadNote, ckGlo "BadLetter", ckGlo "BadNote", ckGlo "BadSide", ckGlo "BadText", ckHd "BadLetter" hw_BadLetter, ckHd "BadNote" hw_BadNote, ckHd "BadSide" hw_BadSide, ckHd "OnceError" hw_OnceError, ckFld fc_line "line", ckFld fc_side "side", ckFld fc_letter "letter"]
abbrev cks : List Ck := ck0 ++ ck1 ++ ck2
abbrev si_BadText : Stmt := inClass (top 2) 0
abbrev si_BadSide : Stmt := inClass (top 3) 0
abbrev si_BadNote : Stmt := inClass (top 4) 0
abbrev si_BadLetter : Stmt := inClass (top 5) 0
def fn0 : List He.DefD := [dTop "_law_digits" (top 21), dTop "_law_written" (top 23), dTop "write_paper" (top 15), dTop "_law_whole" (top 19), dTop "_law_alike" (top 22), dTop "writes_number" (top 8), dTop "read_first" (top 16), dTop "read_number" (top 9), dTop "read_paper" (top 17), dTop "_law_reads" (top 31), dTop "_law_good" (top 32), dTop "_law_cell" (top 20), dTop "_law_odd_word" (top 26), dTop "_law_changed" (top 27), dTop "_law_number" (top 24), dTop "_law_read" (top 25), dTop "_law_refusal" (top 28), dTop "_law_side_refused" (top 29), dTop "_law_letter_refused" (top 30), dTop "law" (top 33), dMeth "BadText" "__init__" "BadText.__init__" si_BadText, dMeth "BadSide" "__init__" "BadSide.__init__" si_BadSide, dMeth "BadNote" "__init__" "BadNote.__init__" si_BadNote, dMeth "BadLetter" "__init__" "BadLetter.__init__" si_BadLetter]
abbrev fns : List He.DefD := fn0
def names0 : List PySem.Str := ["OnceError", "BadText", "BadSide", "BadNote", "BadLetter", "DIGITS", "writes_number", "read_number", "SIDES", "IN_LINE", "MOST_LETTER", "MANY", "write_paper", "read_first", "read_paper", "_law_whole", "_law_cell", "_law_digits", "_law_alike", "_law_written", "_law_number", "_law_read", "_law_odd_word", "_law_changed", "_law_refusal", "_law_side_refused", "_law_letter_refused", "_law_reads", "_law_good"]
abbrev names : List PySem.Str := names0
abbrev R : PySem.W.OpenRow := PySem.W.OpenLaw.row PySem.Challenge.rw_onceread_k37_paper_notes_whole
abbrev hk : PySem.W.Hook := hookE 5 cks fns
def ob (s : PySem.W.SharedT) : HkT := obsEG 5 cks fns (HandSHeadRun.getT s)
theorem ob_eq (s : PySem.W.SharedT) : ob s = hk.obs s.abs := obsEG_eq (HandSHeadRun.getT_eq s)
theorem run (w : World) : HandSHeadRun.RunEq R (PySem.W.view R.prog [33]) hk ob 40000 names w := by
  intro os
  kernel_rfl
section
variable {h : Heap} (X : K.In h) (G : h.Ns mainGlobals mg) (c : SaysE cks fns K)
include X G c
theorem bt_mk : Bt K mg := ⟨He.free_ok X G (c.at 0), He.free_ok X G (c.at 1), He.free_ok X G (c.at 2), He.free_ok X G (c.at 3), He.free_ok X G (c.at 4), He.free_ok X G (c.at 5), He.free_ok X G (c.at 6), He.free_ok X G (c.at 7), He.free_ok X G (c.at 8), He.free_ok X G (c.at 9), He.free_ok X G (c.at 10), He.free_ok X G (c.at 11), He.free_ok X G (c.at 12), He.free_ok X G (c.at 13), He.str_ok X G (c.at 15), He.int_ok X G (c.at 16), He.int_ok X G (c.at 17), He.int_ok X G (c.at 18), gT_of X G (c.at 19)⟩
theorem t_digits : TopFn K mg "_law_digits" (top 21) := by
  obtain ⟨fd, F⟩ := c.def_ 0 (d := dTop "_law_digits" (top 21)) rfl
  exact ⟨_, fd, He.glo_ok X G (c.at 20), fun_of F⟩
theorem t_written : TopFn K mg "_law_written" (top 23) := by
  obtain ⟨fd, F⟩ := c.def_ 1 (d := dTop "_law_written" (top 23)) rfl
  exact ⟨_, fd, He.glo_ok X G (c.at 21), fun_of F⟩
theorem t_write_paper : TopFn K mg "write_paper" (top 15) := by
  obtain ⟨fd, F⟩ := c.def_ 2 (d := dTop "write_paper" (top 15)) rfl
  exact ⟨_, fd, He.glo_ok X G (c.at 22), fun_of F⟩
theorem t_whole : TopFn K mg "_law_whole" (top 19) := by
  obtain ⟨fd, F⟩ := c.def_ 3 (d := dTop "_law_whole" (top 19)) rfl
  exact ⟨_, fd, He.glo_ok X G (c.at 23), fun_of F⟩
theorem t_alike : TopFn K mg "_law_alike" (top 22) := by
  obtain ⟨fd, F⟩ := c.def_ 4 (d := dTop "_law_alike" (top 22)) rfl
  exact ⟨_, fd, He.glo_ok X G (c.at 24), fun_of F⟩
theorem t_writes_number : TopFn K mg "writes_number" (top 8) := by
  obtain ⟨fd, F⟩ := c.def_ 5 (d := dTop "writes_number" (top 8)) rfl
  exact ⟨_, fd, He.glo_ok X G (c.at 25), fun_of F⟩
theorem t_read_first : TopFn K mg "read_first" (top 16) := by
  obtain ⟨fd, F⟩ := c.def_ 6 (d := dTop "read_first" (top 16)) rfl
  exact ⟨_, fd, He.glo_ok X G (c.at 26), fun_of F⟩
theorem t_read_number : TopFn K mg "read_number" (top 9) := by
  obtain ⟨fd, F⟩ := c.def_ 7 (d := dTop "read_number" (top 9)) rfl
  exact ⟨_, fd, He.glo_ok X G (c.at 27), fun_of F⟩
theorem t_read_paper : TopFn K mg "read_paper" (top 17) := by
  obtain ⟨fd, F⟩ := c.def_ 8 (d := dTop "read_paper" (top 17)) rfl
  exact ⟨_, fd, He.glo_ok X G (c.at 28), fun_of F⟩
theorem t_reads : TopFn K mg "_law_reads" (top 31) := by
  obtain ⟨fd, F⟩ := c.def_ 9 (d := dTop "_law_reads" (top 31)) rfl
  exact ⟨_, fd, He.glo_ok X G (c.at 29), fun_of F⟩
theorem t_good : TopFn K mg "_law_good" (top 32) := by
  obtain ⟨fd, F⟩ := c.def_ 10 (d := dTop "_law_good" (top 32)) rfl
  exact ⟨_, fd, He.glo_ok X G (c.at 30), fun_of F⟩
theorem t_cell : TopFn K mg "_law_cell" (top 20) := by
  obtain ⟨fd, F⟩ := c.def_ 11 (d := dTop "_law_cell" (top 20)) rfl
  exact ⟨_, fd, He.glo_ok X G (c.at 31), fun_of F⟩
theorem t_odd_word : TopFn K mg "_law_odd_word" (top 26) := by
  obtain ⟨fd, F⟩ := c.def_ 12 (d := dTop "_law_odd_word" (top 26)) rfl
  exact ⟨_, fd, He.glo_ok X G (c.at 32), fun_of F⟩
theorem t_changed : TopFn K mg "_law_changed" (top 27) := by
  obtain ⟨fd, F⟩ := c.def_ 13 (d := dTop "_law_changed" (top 27)) rfl
  exact ⟨_, fd, He.glo_ok X G (c.at 33), fun_of F⟩
theorem t_number : TopFn K mg "_law_number" (top 24) := by
  obtain ⟨fd, F⟩ := c.def_ 14 (d := dTop "_law_number" (top 24)) rfl
  exact ⟨_, fd, He.glo_ok X G (c.at 34), fun_of F⟩
theorem t_read : TopFn K mg "_law_read" (top 25) := by
  obtain ⟨fd, F⟩ := c.def_ 15 (d := dTop "_law_read" (top 25)) rfl
  exact ⟨_, fd, He.glo_ok X G (c.at 35), fun_of F⟩
theorem t_refusal : TopFn K mg "_law_refusal" (top 28) := by
  obtain ⟨fd, F⟩ := c.def_ 16 (d := dTop "_law_refusal" (top 28)) rfl
  exact ⟨_, fd, He.glo_ok X G (c.at 36), fun_of F⟩
theorem t_side_refused : TopFn K mg "_law_side_refused" (top 29) := by
  obtain ⟨fd, F⟩ := c.def_ 17 (d := dTop "_law_side_refused" (top 29)) rfl
  exact ⟨_, fd, He.glo_ok X G (c.at 37), fun_of F⟩
theorem t_letter_refused : TopFn K mg "_law_letter_refused" (top 30) := by
  obtain ⟨fd, F⟩ := c.def_ 18 (d := dTop "_law_letter_refused" (top 30)) rfl
  exact ⟨_, fd, He.glo_ok X G (c.at 38), fun_of F⟩
theorem t_law : TopFn K mg "law" (top 33) := by
  obtain ⟨fd, F⟩ := c.def_ 19 (d := dTop "law" (top 33)) rfl
  exact ⟨_, fd, He.glo_ok X G (c.at 39), fun_of F⟩
theorem x_BadText : Xc1 P w K mg base "BadText" "place" := by
  obtain ⟨fd, F⟩ := c.def_ 20 (d := dMeth "BadText" "__init__" "BadText.__init__" si_BadText) rfl
  exact x1_of (st := si_BadText) (q := "BadText.__init__") (n := "place") X G (c.at 41) (c.at 42) F rfl ⟨rfl, rfl, rfl, by decide +kernel, rfl, by decide +kernel, by decide +kernel⟩ (.inl rfl) (.inl rfl) (by decide) (by decide) (fun _ => rfl) (fun _ _ _ _ _ _ us hl => match us, hl with | [_, _], _ => rfl)
theorem x_BadSide : Xc1 P w K mg base "BadSide" "side" := by
  obtain ⟨fd, F⟩ := c.def_ 21 (d := dMeth "BadSide" "__init__" "BadSide.__init__" si_BadSide) rfl
  exact x1_of (st := si_BadSide) (q := "BadSide.__init__") (n := "side") X G (c.at 43) (c.at 44) F rfl ⟨rfl, rfl, rfl, by decide +kernel, rfl, by decide +kernel, by decide +kernel⟩ (.inl rfl) (.inl rfl) (by decide) (by decide) (fun _ => rfl) (fun _ _ _ _ _ _ us hl => match us, hl with | [_, _], _ => rfl)
theorem x_BadNote : Xc1 P w K mg base "BadNote" "line" := by
  obtain ⟨fd, F⟩ := c.def_ 22 (d := dMeth "BadNote" "__init__" "BadNote.__init__" si_BadNote) rfl
  exact x1_of (st := si_BadNote) (q := "BadNote.__init__") (n := "line") X G (c.at 45) (c.at 46) F rfl ⟨rfl, rfl, rfl, by decide +kernel, rfl, by decide +kernel, by decide +kernel⟩ (.inl rfl) (.inl rfl) (by decide) (by decide) (fun _ => rfl) (fun _ _ _ _ _ _ us hl => match us, hl with | [_, _], _ => rfl)
theorem x_BadLetter : Xc1 P w K mg base "BadLetter" "letter" := by
  obtain ⟨fd, F⟩ := c.def_ 23 (d := dMeth "BadLetter" "__init__" "BadLetter.__init__" si_BadLetter) rfl
  exact x1_of (st := si_BadLetter) (q := "BadLetter.__init__") (n := "letter") X G (c.at 47) (c.at 48) F rfl ⟨rfl, rfl, rfl, by decide +kernel, rfl, by decide +kernel, by decide +kernel⟩ (.inl rfl) (.inl rfl) (by decide) (by decide) (fun _ => rfl) (fun _ _ _ _ _ _ us hl => match us, hl with | [_, _], _ => rfl)
theorem ex_mk : Ex P w K mg base := ⟨x_BadText X G c, x_BadSide X G c, x_BadNote X G c, x_BadLetter X G c, ⟨_, He.glo_ok X G (c.at 40), clsOk_of (u := fun K => .ref (He.ga K "OnceError")) X G (c.at 14) (c.at 49)⟩, clsOk_of (u := fun _ => .type "ValueError") X G (c.at 14) (c.at 50), clsOk_of (u := fun _ => .type "bool") X G (c.at 14) (c.at 51), clsOk_of (u := fun _ => .type "int") X G (c.at 14) (c.at 52), clsOk_of (u := fun _ => .type "str") X G (c.at 14) (c.at 53), clsOk_of (u := fun _ => .type "tuple") X G (c.at 14) (c.at 54), clsTOk_of (u := us_BadLetter_BadNote) X G (c.at 14) (c.at 55), clsTOk_of (u := us_BadLetter_BadSide_BadText) X G (c.at 14) (c.at 56), clsTOk_of (u := us_BadSide_BadNote) X G (c.at 14) (c.at 57), He.glo_ok X G (c.at 58), He.glo_ok X G (c.at 59), He.glo_ok X G (c.at 60), He.glo_ok X G (c.at 61), hd_of X G (c.at 62), hd_of X G (c.at 63), hd_of X G (c.at 64), hd_of X G (c.at 65), fld_of X G (c.at 66), fld_of X G (c.at 67), fld_of X G (c.at 68)⟩
end
theorem ok_all {h : Heap} (X : K.In h) (G : h.Ns mainGlobals mg) (c : SaysE cks fns K) : LawP P w K mg 9 "_law_script" den_law := by
  have B : Bt K mg := bt_mk X G c
  have E : ∀ base, Ex P w K mg base := fun _ => ex_mk X G c
  have G_digits := fun base => ok_digits (P := P) (w := w) (base := base) (t_digits X G c) B
  have G_written := fun base => ok_written (P := P) (w := w) (base := base) (t_written X G c) B
  have G_write_paper := fun base => ok_write_paper (P := P) (w := w) (base := base) (t_write_paper X G c) B (E base)
  have G_whole := fun base => ok_whole (P := P) (w := w) (base := base) (t_whole X G c) B (E base)
  have G_alike := fun base => ok_alike (P := P) (w := w) (base := base) (t_alike X G c) B (E base) (G_whole base) 4
  have G_writes_number := fun base => ok_writes_number (P := P) (w := w) (base := base) (t_writes_number X G c) B
  have G_read_first := fun base => ok_read_first (P := P) (w := w) (base := base) (t_read_first X G c) B (E base) (G_writes_number base)
  have G_read_number := fun base => ok_read_number (P := P) (w := w) (base := base) (t_read_number X G c) B (G_writes_number base)
  have G_read_paper := fun base => ok_read_paper (P := P) (w := w) (base := base) (t_read_paper X G c) B (E base) (G_read_number base) (G_read_first base)
  have G_reads := fun base => ok_reads (P := P) (w := w) (base := base) (t_reads X G c) B (E base) (G_alike base) (G_read_paper base)
  have G_good := fun base => ok_good (P := P) (w := w) (base := base) (t_good X G c) B (E base) (G_reads base) (G_write_paper base)
  have G_cell := fun base => ok_cell (P := P) (w := w) (base := base) (t_cell X G c) B
  have G_odd_word := fun base => ok_odd_word (P := P) (w := w) (base := base) (t_odd_word X G c) B
  have G_changed := fun base => ok_changed (P := P) (w := w) (base := base) (t_changed X G c) B (G_odd_word base)
  have G_number := fun base => ok_number (P := P) (w := w) (base := base) (t_number X G c) B
  have G_read := fun base => ok_read (P := P) (w := w) (base := base) (t_read X G c) B (G_number base)
  have G_refusal := fun base => ok_refusal (P := P) (w := w) (base := base) (t_refusal X G c) B (E base) (G_read_paper base) (G_whole base)
  have G_side_refused := fun base => ok_side_refused (P := P) (w := w) (base := base) (t_side_refused X G c) B (E base) (G_write_paper base)
  have G_letter_refused := fun base => ok_letter_refused (P := P) (w := w) (base := base) (t_letter_refused X G c) B (E base) (G_write_paper base)
  exact ok_law (t_law X G c) B G_good G_letter_refused G_side_refused G_write_paper G_reads G_refusal G_read G_changed G_digits G_cell G_written
end K37
set_option Elab.async false
set_option linter.all false
set_option maxRecDepth 100000
set_option maxHeartbeats 4000000
/-! NA: the plain law of k37: common parts (from MA, MB, MC of k06). -/
namespace K37m
open PySem PySem.Spec DP
open K37 hiding R

theorem rb_ok {α β : Type} {a : α} {e : En} {f : α → M β} : (DP.R.ok a e).bind f = f a e := rfl
theorem bind_ok {α β : Type} {r : R α} {a : α} {e : En} {f : α → M β} (h : r = .ok a e) : r.bind f = f a e := by rw [h]

theorem addD_int (i j : Int) : addD (.int i) (.int j) = some (.int (i + j)) := rfl
theorem subD_int (i j : Int) : subD (.int i) (.int j) = some (.int (i - j)) := rfl
theorem mulI_r {i j : Int} (h : decide (j.natAbs < 18446744073709551616) = true) : mulI (.int i) (.int j) = some (.int (i * j)) := by
  unfold mulI DP.opI
  simp only [h, Bool.or_true, if_true]
theorem mulI_l {i j : Int} (h : decide (i.natAbs < 18446744073709551616) = true) : mulI (.int i) (.int j) = some (.int (i * j)) := by
  unfold mulI DP.opI
  simp only [h, Bool.true_or, if_true]
theorem modD_ok {i j : Int} (h : decide (0 < j) = true) : modD (.int i) (.int j) = some (.int (i % j)) := by
  unfold modD DP.opI
  simp only [h, if_true]
theorem divD_ok {i j : Int} (h : (decide (0 < j) && decide (j.natAbs < 1073741824)) = true) : divD (.int i) (.int j) = some (.int (i / j)) := by
  unfold divD DP.opI
  simp only [h, if_true]
theorem ixL_ok {ds : List D} {k : Nat} {d : D} (h : ds[k]? = some d) : ixD (.lst ds) (.int (k : Int)) = some d := by
  exact L2.atI_nat h
section
variable {e : En} {i : Nat} {d : D}
theorem run_set {m : M D} {e1 : En} (h : m e = .ok d e1) (hf : free e1 i = true) : sSet i m e = .ok .nx (e1.set i (.fz d)) := by
  unfold sSet
  rw [h]
  exact if_pos hf
theorem run_seq {m n : M Fl} {e1 : En} (h : m e = .ok .nx e1) : sSeq m n e = n e1 := by
  unfold sSeq
  rw [h]
theorem run_rt {m n : M Fl} {e1 : En} (h : m e = .ok (.rt d) e1) : sSeq m n e = .ok (.rt d) e1 := by
  unfold sSeq
  rw [h]
theorem run_ret {m : M D} {e1 : En} (h : m e = .ok d e1) : sRet m e = .ok (.rt d) e1 := by
  unfold sRet
  rw [h]
theorem run_ift {t : M Bool} {m n : M Fl} {e1 : En} {r : R Fl} (h : t e = .ok true e1) (h2 : m e1 = r) : sIf t m n e = r := by
  unfold sIf
  rw [h, ← h2]
  rfl
theorem run_iff {t : M Bool} {m n : M Fl} {e1 : En} {r : R Fl} (h : t e = .ok false e1) (h2 : n e1 = r) : sIf t m n e = r := by
  unfold sIf
  rw [h, ← h2]
  rfl
theorem run_andt {m n : M D} {e1 : En} {r : R D} (h : m e = .ok (.bl true) e1) (h2 : n e1 = r) : eAnd m n e = r := by
  unfold eAnd
  rw [h, ← h2]
theorem run_orf {m n : M D} {e1 : En} {r : R D} (h : m e = .ok (.bl false) e1) (h2 : n e1 = r) : eOr m n e = r := by
  unfold eOr
  rw [h, ← h2]
theorem run_op {f : D → D → Option D} {ma mb : M Op} {x y : Op} {a b : D} {e1 e2 : En} (h1 : ma e = .ok x e1) (h2 : mb e1 = .ok y e2) (h3 : look e2 x = some a) (h4 : look e2 y = some b) (h5 : f a b = some d) : eOp f ma mb e = .ok d e2 := by
  unfold eOp
  simp only [h1, h2, h3, h4, h5, R.bind]
theorem run_call {pm : List Bool} {den : List D → DR} {m : M (List Op)} {os : List Op} {ds ms : List D} {e1 : En} (h1 : m e = .ok os e1) (h2 : argsOf e1 pm os = some ds) (h3 : (mIx pm os).Nodup) (h4 : den ds = .ok d ms) : eCall pm den m e = .ok d (wback pm os ms e1) := by
  unfold eCall
  simp only [h1, h2, h3, h4, if_true, R.bind]
end
theorem step (z rest seed : Int) (sz acc : List Int) (s4 s6 s7 : Sl) (k : Nat) (s : Int) (h7 : s7 = .no ∨ ∃ d, s7 = .fz d) (hs : 0 ≤ seed ∧ seed < 2147483647) (hz : sz[k]? = some s) (hp : 0 < s) (hk : k < 1000) (ha : acc.length < 1000) :
    ∃ seed' d, (0 ≤ seed' ∧ seed' < 2147483647) ∧ (0 ≤ d ∧ d < s) ∧ ∃ t, b1_digits [.fz (.int z), .fz (.lst (sz.map .int)), .ow false (.lst (acc.map .int)), .fz (.int rest), s4, .fz (.int seed), .fz (.int k), s7] =
      .ok .nx [.fz (.int z), .fz (.lst (sz.map .int)), .ow false (.lst ((acc ++ [d]).map .int)), .fz (.int rest), s4, .fz (.int seed'), .fz (.int k), .fz t] := by
  have hix : ixD (.lst (sz.map .int)) (.int k) = some (.int s) := ixL_ok (by rw [List.getElem?_map, hz]; rfl)
  have f7 : ∀ a b c d e f g, free [a, b, c, d, e, f, g, s7] 7 = true := by
    intro a b c d e f g
    rcases h7 with rfl | ⟨_, rfl⟩ <;> rfl
  have hseed : 0 ≤ (seed * 48271 + 974711 * (k : Int) + 12345) % 2147483647 ∧ (seed * 48271 + 974711 * (k : Int) + 12345) % 2147483647 < 2147483647 := ⟨Int.emod_nonneg _ (by decide), Int.emod_lt_of_pos _ (by decide)⟩
  generalize hS : (seed * 48271 + 974711 * (k : Int) + 12345) % 2147483647 = S at hseed
  refine ⟨S, (S * (S / 65537 + 3) % 2147483629) / 19 % s, hseed, ⟨Int.emod_nonneg _ (by omega), Int.emod_lt_of_pos _ hp⟩, .int (S * (S / 65537 + 3) % 2147483629), ?_⟩
  have m1 : decide (seed.natAbs < 18446744073709551616) = true := by rw [decide_eq_true_eq]; omega
  have m2 : decide ((974711 : Int).natAbs < 18446744073709551616) = true := by decide
  have m3 : decide (S.natAbs < 18446744073709551616) = true := by rw [decide_eq_true_eq]; omega
  have q2 : (decide (0 < s)) = true := by simpa using hp
  unfold b1_digits
  refine (run_seq (run_set (d := .int S) (e1 := [.fz (.int z), .fz (.lst (sz.map .int)), .ow false (.lst (acc.map .int)), .fz (.int rest), s4, .fz (.int seed), .fz (.int k), s7]) ?_ rfl)).trans ?_
  · simp [eOp, oVa, eBi, aCons, aNil, oVar, eCst, R.bind, look, looks, intD, addD_int, mulI_l m1, mulI_l m2, modD_ok, hS]
  refine (run_seq (run_set (d := .int (S * (S / 65537 + 3) % 2147483629)) (e1 := [.fz (.int z), .fz (.lst (sz.map .int)), .ow false (.lst (acc.map .int)), .fz (.int rest), s4, .fz (.int S), .fz (.int k), s7]) ?_ (f7 _ _ _ _ _ _ _))).trans ?_
  · simp [eOp, oVa, eBi, aCons, aNil, oVar, eCst, R.bind, look, looks, intD, addD_int, mulI_l m3, modD_ok, divD_ok]
  · have hl : (acc.map D.int).length < sizeLine := by rw [List.length_map, sizeLine_eq]; omega
    simp [sApp, isLst, eOp, oVa, eBi, aCons, aNil, oVar, eCst, R.bind, look, looks, intD, addD_int, mulI_l m3, modD_ok, divD_ok, hix, modD_ok q2]
    simpa using hl

/-- every digit lies below its size -/
def Dg : List Int → List Int → Prop
  | [], [] => True
  | d :: ds, s :: ss => (0 ≤ d ∧ d < s) ∧ Dg ds ss
  | _, _ => False
theorem Dg.len : ∀ {ds ss : List Int}, Dg ds ss → ds.length = ss.length
  | [], [], _ => rfl
  | _ :: _, _ :: _, h => congrArg Nat.succ (Dg.len h.2)
theorem Dg.get {ds ss : List Int} {k : Nat} {s : Int} (h : Dg ds ss) (hs : ss[k]? = some s) : ∃ d, ds[k]? = some d ∧ 0 ≤ d ∧ d < s := by
  induction ds generalizing ss k with
  | nil =>
    cases ss with
    | nil => cases hs
    | cons _ _ => exact h.elim
  | cons d ds ih =>
    cases ss with
    | nil => exact h.elim
    | cons s' ss =>
      cases k with
      | zero =>
        have e : s' = s := Option.some.inj hs
        exact ⟨d, rfl, e ▸ h.1⟩
      | succ k => exact ih h.2 hs
theorem Dg.snoc : ∀ {ds ss : List Int} {d s : Int}, Dg ds ss → (0 ≤ d ∧ d < s) → Dg (ds ++ [d]) (ss ++ [s])
  | [], [], _, _, _, h => ⟨h, trivial⟩
  | _ :: _, _ :: _, _, _, h, q => ⟨h.1, Dg.snoc h.2 q⟩
theorem forL_cons {st : D → En → Option En} {body : M Fl} {d : D} {ds : List D} {e e1 e2 : En} (h1 : st d e = some e1) (h2 : body e1 = .ok .nx e2) : forL st body (d :: ds) e = forL st body ds e2 := by
  rw [forL]
  simp only [h1, h2]
theorem gN_ok {i : Nat} {d : D} {e : En} (h : free e i = true) : gN i d e = some (e.set i (.fz d)) := if_pos h
theorem loop (z rest : Int) (sz : List Int) (s4 : Sl) (hp : ∀ s ∈ sz, 0 < s) (hl : sz.length < 1000) : ∀ (m k : Nat) (acc : List Int) (seed : Int) (s6 s7 : Sl), k + m = sz.length → Dg acc (sz.take k) → (0 ≤ seed ∧ seed < 2147483647) →
    (s6 = .no ∨ ∃ d, s6 = .fz d) → (s7 = .no ∨ ∃ d, s7 = .fz d) → ∃ out seed' s6' s7', Dg out sz ∧ (s6' = .no ∨ ∃ d, s6' = .fz d) ∧ (s7' = .no ∨ ∃ d, s7' = .fz d) ∧
      forL (gN 6) b1_digits ((List.range' k m).map fun i : Nat => D.int (i : Int)) [.fz (.int z), .fz (.lst (sz.map .int)), .ow false (.lst (acc.map .int)), .fz (.int rest), s4, .fz (.int seed), s6, s7] =
      .ok .nx [.fz (.int z), .fz (.lst (sz.map .int)), .ow false (.lst (out.map .int)), .fz (.int rest), s4, .fz (.int seed'), s6', s7']
  | 0, k, acc, seed, s6, s7, hk, ha, hs, h6, h7 => by
    have e : sz.take k = sz := List.take_of_length_le (by omega)
    rw [e] at ha
    exact ⟨acc, seed, s6, s7, ha, h6, h7, rfl⟩
  | m + 1, k, acc, seed, s6, s7, hk, ha, hs, h6, h7 => by
    have hk' : k < sz.length := by omega
    have hz : sz[k]? = some sz[k] := List.getElem?_eq_getElem hk'
    have hlen : acc.length = k := by rw [ha.len, List.length_take]; omega
    obtain ⟨seed', d, q1, q2, t, q3⟩ := step z rest seed sz acc s4 s6 s7 k sz[k] h7 hs hz (hp _ (List.getElem_mem hk')) (by omega) (by omega)
    have ha' : Dg (acc ++ [d]) (sz.take (k + 1)) := by
      rw [List.take_add_one, hz]
      exact ha.snoc q2
    obtain ⟨out, seed2, s6', s7', r1, r2, r3, r4⟩ := loop z rest sz s4 hp hl m (k + 1) (acc ++ [d]) seed' (.fz (.int k)) (.fz t) (by omega) ha' q1 (.inr ⟨_, rfl⟩) (.inr ⟨_, rfl⟩)
    refine ⟨out, seed2, s6', s7', r1, r2, r3, ?_⟩
    rw [List.range'_succ, List.map_cons, ← r4]
    have f6 : free [.fz (.int z), .fz (.lst (sz.map .int)), .ow false (.lst (acc.map .int)), .fz (.int rest), s4, .fz (.int seed), s6, s7] 6 = true := by rcases h6 with rfl | ⟨_, rfl⟩ <;> rfl
    exact forL_cons (gN_ok f6) q3
theorem rngs_nat (n : Nat) : rngs 0 (n : Int) = (List.range' 0 n).map fun i => .int (i : Int) := by
  unfold rngs
  rw [List.range_eq_range']
  simp
theorem loopq (z : Int) (s5 s6 s7 : Sl) (sz : List Int) (hl : sz.length < 1000) : ∀ (todo done acc : List Int) (rest : Int) (s4 : Sl), done ++ todo = sz → (∀ s ∈ todo, 0 < s ∧ s < 1073741824) → Dg acc done → (s4 = .no ∨ ∃ d, s4 = .fz d) →
    ∃ out rest' s4', Dg out sz ∧ forL (gN 4) b2_digits (todo.map .int) [.fz (.int z), .fz (.lst (sz.map .int)), .ow false (.lst (acc.map .int)), .fz (.int rest), s4, s5, s6, s7] =
      .ok .nx [.fz (.int z), .fz (.lst (sz.map .int)), .ow false (.lst (out.map .int)), .fz (.int rest'), s4', s5, s6, s7]
  | [], done, acc, rest, s4, hd, _, ha, _ => by
    rw [List.append_nil] at hd
    exact ⟨acc, rest, s4, hd ▸ ha, rfl⟩
  | s :: todo, done, acc, rest, s4, hd, hp, ha, h4 => by
    have hs := hp s List.mem_cons_self
    obtain ⟨out, rest', s4', r1, r2⟩ := loopq z s5 s6 s7 sz hl todo (done ++ [s]) (acc ++ [rest % s]) (rest / s) (.fz (.int s)) (by rw [← hd]; simp) (fun x hx => hp x (List.mem_cons_of_mem _ hx)) (ha.snoc ⟨Int.emod_nonneg _ (by omega), Int.emod_lt_of_pos _ hs.1⟩) (.inr ⟨_, rfl⟩)
    refine ⟨out, rest', s4', r1, ?_⟩
    rw [List.map_cons, ← r2]
    have f4 : free [.fz (.int z), .fz (.lst (sz.map .int)), .ow false (.lst (acc.map .int)), .fz (.int rest), s4, s5, s6, s7] 4 = true := by rcases h4 with rfl | ⟨_, rfl⟩ <;> rfl
    refine forL_cons (gN_ok f4) ?_
    have q2 : decide (0 < s) = true := by simpa using hs.1
    have q3 : (decide (0 < s) && decide (s.natAbs < 1073741824)) = true := by simp only [Bool.and_eq_true, decide_eq_true_eq]; omega
    have hla : acc.length < sizeLine := by
      have := ha.len
      have h2 : done.length ≤ sz.length := by rw [← hd]; simp
      rw [sizeLine_eq]; omega
    unfold b2_digits
    simp [sSeq, sSet, free, sApp, isLst, eOp, oVa, eBi, aCons, aNil, oVar, eCst, R.bind, look, looks, intD, modD_ok q2, divD_ok q3, hla]
theorem runD_ok {pm : List Bool} {n : Nat} {m : M Fl} {ds : List D} {d : D} {e : En} {ms : List D} (hl : ds.length = pm.length) (h : m (initE pm n ds) = .ok (.rt d) e) (hm : muts pm e = some ms) : runD pm n m ds = .ok d ms := by
  unfold runD
  rw [if_pos hl, h]
  show (match muts pm e with
    | some ms => DR.ok d ms
    | none => .bad) = _
  rw [hm]
theorem sFor_eq (m : M (List D)) (st : D → En → Option En) (body : M Fl) (e : En) : sFor m st body e = (m e).bind fun ds e => forL st body ds e := rfl
theorem pow18 : powD (.int 10) (.int 18) = some (.int 1000000000000000000) := by
  rfl
def rg1 : List Op → M (List D) := fun os e => match os with
  | [.va (.int j)] => if small j = true then .ok (rngs 0 j) e else .bad
  | _ => .bad
theorem iRg1_eq (m : M (List Op)) (e : En) : iRg1 m e = (m e).bind rg1 := rfl
theorem rg1_ok {j : Int} {e : En} (h : small j = true) : rg1 [.va (.int j)] e = .ok (rngs 0 j) e := if_pos h
theorem hsmall {n : Nat} (h : n < 1000) : small (n : Int) = true := by
  unfold small
  rw [decide_eq_true_eq]
  omega
theorem dd1 (z : Int) (sz : List Int) (hp : ∀ s ∈ sz, 0 < s ∧ s < 1073741824) (hl : sz.length < 1000) (hz : (1000000000000000000 : Int) ≤ z) : ∃ out, Dg out sz ∧ den_digits [.int z, .lst (sz.map .int)] = .ok (.lst (out.map .int)) [] := by
  have hge : geD (.int z) (.int 1000000000000000000) = some (.bl true) := by
    show some (D.bl (decide ((1000000000000000000 : Int) ≤ z))) = _
    rw [decide_eq_true hz]
  obtain ⟨out, rest', s4', r1, r2⟩ := loopq z .no .no .no sz hl sz [] [] (z - 1000000000000000000) .no rfl hp trivial (.inl rfl)
  refine ⟨out, r1, runD_ok rfl (e := [.fz (.int z), .fz (.lst (sz.map .int)), .fz (.lst (out.map .int)), .fz (.int rest'), s4', .no, .no, .no]) ?_ rfl⟩
  simp only [List.map_nil] at r2
  simp [ev_digits, initE, slotOf, sSeq, sNew, nLst, aNil, vas, free, sSet, eBi, aCons, oVar, oVa, looks, look, intD, R.bind, sIf, bE, eOp, eCst, pow18, hge, subD_int, sFor_eq, iD, eVar, itD, r2, frz, sFrz, sRet]
theorem iLen_ok {E0 : En} {l : List D} {i : Nat} (h1 : E0[i]? = some (.fz (.lst l))) (hsm : small (l.length : Int) = true) : iRg1 (aCons (oVa (eBi lenD (aCons (oVar i) aNil))) aNil) E0 = .ok (rngs 0 l.length) E0 := by
  have q : (aCons (oVa (eBi lenD (aCons (oVar i) aNil))) aNil) E0 = .ok [.va (.int l.length)] E0 := by
    simp [eBi, aCons, aNil, oVar, oVa, looks, look, lenD, R.bind, h1]
  rw [iRg1_eq, q]
  exact rg1_ok hsm
theorem for_ok {m : M (List D)} {st : D → En → Option En} {body : M Fl} {e e1 : En} {ds : List D} {r : R Fl} (h : m e = .ok ds e1) (h2 : forL st body ds e1 = r) : sFor m st body e = r := by
  rw [sFor_eq, h]
  exact h2
theorem hd_ (z : Int) : 0 ≤ z % 2147483629 ∧ z % 2147483629 < 2147483647 := ⟨Int.emod_nonneg _ (by decide), by have := Int.emod_lt_of_pos z (by decide : (0 : Int) < 2147483629); omega⟩
theorem ll_ (z : Int) (sz : List Int) (hp : ∀ s ∈ sz, 0 < s ∧ s < 1073741824) (hl : sz.length < 1000) (seed : Int) (hd : 0 ≤ seed ∧ seed < 2147483647) : ∃ out seed' s6' s7', Dg out sz ∧ forL (gN 6) b1_digits (rngs 0 sz.length) [.fz (.int z), .fz (.lst (sz.map .int)), .ow false (.lst []), .fz (.int z), .no, .fz (.int seed), .no, .no] =
      .ok .nx [.fz (.int z), .fz (.lst (sz.map .int)), .ow false (.lst (out.map .int)), .fz (.int z), .no, .fz (.int seed'), s6', s7'] := by
  obtain ⟨out, seed', s6', s7', r1, _, _, r2⟩ := loop z z sz .no (fun s h => (hp s h).1) hl sz.length 0 [] seed .no .no (by omega) trivial hd (.inl rfl) (.inl rfl)
  rw [← rngs_nat] at r2
  exact ⟨out, seed', s6', s7', r1, r2⟩
theorem dd2 (z : Int) (sz : List Int) (hp : ∀ s ∈ sz, 0 < s ∧ s < 1073741824) (hl : sz.length < 1000) (hz : ¬ (1000000000000000000 : Int) ≤ z) : ∃ out, Dg out sz ∧ den_digits [.int z, .lst (sz.map .int)] = .ok (.lst (out.map .int)) [] := by
  have hge : geD (.int z) (.int 1000000000000000000) = some (.bl false) := by
    show some (D.bl (decide ((1000000000000000000 : Int) ≤ z))) = _
    rw [decide_eq_false hz]
  obtain ⟨out, seed', s6', s7', r1, r2⟩ := ll_ z sz hp hl (z % 2147483629) (hd_ z)
  refine ⟨out, r1, runD_ok rfl (e := [.fz (.int z), .fz (.lst (sz.map .int)), .fz (.lst (out.map .int)), .fz (.int z), .no, .fz (.int seed'), s6', s7']) ?_ rfl⟩
  have hsm : small (sz.length : Int) = true := hsmall hl
  have hmod : modD (.int z) (.int 2147483629) = some (.int (z % 2147483629)) := modD_ok (by decide)
  unfold ev_digits
  refine (run_seq (e1 := [.fz (.int z), .fz (.lst (sz.map .int)), .ow false (.lst []), .no, .no, .no, .no, .no]) ?_).trans ?_
  · rfl
  refine (run_seq (e1 := [.fz (.int z), .fz (.lst (sz.map .int)), .ow false (.lst []), .fz (.int z), .no, .no, .no, .no]) ?_).trans ?_
  · rfl
  refine (run_seq (e1 := [.fz (.int z), .fz (.lst (sz.map .int)), .ow false (.lst []), .fz (.int z), .no, .no, .no, .no]) ?_).trans ?_
  · simp [free, eBi, aCons, oVar, oVa, looks, look, R.bind, sIf, bE, eOp, eCst, pow18, hge, sNil]
  refine (run_seq (e1 := [.fz (.int z), .fz (.lst (sz.map .int)), .ow false (.lst []), .fz (.int z), .no, .fz (.int (z % 2147483629)), .no, .no]) ?_).trans ?_
  · simp [sSet, free, eBi, aCons, aNil, oVar, oVa, looks, look, intD, R.bind, eOp, eCst, hmod]
  refine (run_seq (e1 := [.fz (.int z), .fz (.lst (sz.map .int)), .ow false (.lst (out.map .int)), .fz (.int z), .no, .fz (.int seed'), s6', s7']) ?_).trans ?_
  · exact for_ok (iLen_ok (l := sz.map .int) rfl (by rw [List.length_map]; exact hsm)) (by rw [List.length_map]; exact r2)
  · rfl
theorem den_digits_ok (z : Int) (sz : List Int) (hp : ∀ s ∈ sz, 0 < s ∧ s < 1073741824) (hl : sz.length < 1000) : ∃ out, Dg out sz ∧ den_digits [.int z, .lst (sz.map .int)] = .ok (.lst (out.map .int)) [] := by
  by_cases hz : (1000000000000000000 : Int) ≤ z
  · exact dd1 z sz hp hl hz
  · exact dd2 z sz hp hl hz
mutual
theorem eqv_self : ∀ d : D, PyData.eqv (toP d) (toP d) = true
  | .non => rfl
  | .bl b => by show (b == b) = true; simp
  | .int b => by show (b == b) = true; simp
  | .str b => by show (b == b) = true; simp
  | .tup xs => eqvs_self xs
  | .lst xs => eqvs_self xs
  | .scr _ => rfl
  | .dic _ => rfl
  | .dit _ => rfl
  | .obj _ _ => rfl
  | .exn _ _ => rfl
theorem eqvs_self : ∀ ds : List D, PyData.eqvAll (toPs ds) (toPs ds) = true
  | [] => rfl
  | d :: ds => by
    show (PyData.eqv (toP d) (toP d) && PyData.eqvAll (toPs ds) (toPs ds)) = true
    rw [eqv_self d, eqvs_self ds]
    rfl
end
theorem eqD_self {d : D} (h : pl d 64 = true) : eqD d d = some (.bl true) := by
  unfold eqD
  rw [if_pos ⟨h, h⟩]
  unfold eqB
  rw [eqv_self]
def nm : Sl → Bool
  | .ow true _ => false
  | _ => true
theorem free_of {e : En} {i : Nat} {s : Sl} (h : e[i]? = some s) (hn : nm s = true) : free e i = true := by
  unfold free
  rw [h]
  match s, hn with
  | .no, _ => rfl
  | .fz _, _ => rfl
  | .ow false _, _ => rfl
theorem addD_str {x y : PySem.Str} (h : x.length + y.length ≤ sizeLine) : addD (.str x) (.str y) = some (.str (x ++ y)) := by
  show (match (if x.length + y.length ≤ sizeLine then some (D.str (x ++ y)) else none) with
    | some d => some d
    | none => _) = _
  rw [if_pos h]
theorem addD_tup {x y : List D} (h : x.length + y.length ≤ sizeLine) : addD (.tup x) (.tup y) = some (.tup (x ++ y)) := by
  show (match (if x.length + y.length ≤ sizeLine then some (D.tup (x ++ y)) else none) with
    | some d => some d
    | none => _) = _
  rw [if_pos h]

/-! ### cells -/
theorem cell_loop (ns : List Int) (i : Int) : ∀ (cs : List Int) (s : Int) (s3 : Sl), (0 ≤ s ∧ s < 1000003) → nm s3 = true →
    ∃ s' s3', (0 ≤ s' ∧ s' < 1000003) ∧ forL (gN 3) b1_cell (cs.map .int) [.fz (.scr ns), .fz (.int i), .fz (.int s), s3] = .ok .nx [.fz (.scr ns), .fz (.int i), .fz (.int s'), s3']
  | [], s, s3, hs, h3 => ⟨s, s3, hs, rfl⟩
  | c :: cs, s, s3, hs, h3 => by
    obtain ⟨s', s3', h1, h2⟩ := cell_loop ns i cs ((s * 31 + c % 1000003) % 1000003) (.fz (.int c)) ⟨Int.emod_nonneg _ (by decide), Int.emod_lt_of_pos _ (by decide)⟩ rfl
    refine ⟨s', s3', h1, ?_⟩
    rw [List.map_cons, ← h2]
    refine forL_cons (gN_ok (free_of rfl h3)) ?_
    have m1 : decide ((31 : Int).natAbs < 18446744073709551616) = true := by decide
    have q1 : modD (.int c) (.int 1000003) = some (.int (c % 1000003)) := modD_ok (by decide)
    have q2 : modD (.int (s * 31 + c % 1000003)) (.int 1000003) = some (.int ((s * 31 + c % 1000003) % 1000003)) := modD_ok (by decide)
    unfold b1_cell
    simp [sSet, free, eOp, oVa, eBi, aCons, aNil, oVar, eCst, R.bind, look, looks, intD, addD_int, mulI_r m1, q1, q2]
theorem scr_ix {ns : List Int} {i : Int} (h0 : 0 ≤ i) (h1 : i < ns.length) : ∃ c, ixD (.scr ns) (.int i) = some (.int c) := by
  have e : ((i.toNat : Nat) : Int) = i := Int.toNat_of_nonneg h0
  have hi : i.toNat < ns.length := by omega
  obtain ⟨c, hc⟩ : ∃ c, ns[i.toNat]? = some c := ⟨_, List.getElem?_eq_getElem hi⟩
  refine ⟨c, ?_⟩
  have q : L2.atI ns i = some c := by rw [← e]; exact L2.atI_nat hc
  show (L2.atI ns i).map D.int = _
  rw [q]
  rfl
theorem cell_ok (ns : List Int) (hl : ns.length ≤ 63) (i : Int) (h0 : 0 ≤ i) (h1 : i < 1000) : ∃ c, den_cell [.scr ns, .int i] = .ok (.int c) [] := by
  have hlt : ltD (.int i) (.int ns.length) = some (.bl (decide (i < (ns.length : Int)))) := rfl
  have hlen : lenD [.scr ns] = some (.int ns.length) := rfl
  by_cases hi : i < (ns.length : Int)
  · obtain ⟨c, hc⟩ := scr_ix h0 hi
    rw [decide_eq_true hi] at hlt
    refine ⟨c, runD_ok rfl (e := [.fz (.scr ns), .fz (.int i), .no, .no]) ?_ rfl⟩
    unfold ev_cell
    refine run_rt (run_ift (e1 := [.fz (.scr ns), .fz (.int i), .no, .no]) ?_ (run_ret ?_))
    · simp [initE, slotOf, bE, eOp, oVa, eBi, aCons, aNil, oVar, R.bind, look, looks, hlen, hlt]
    · simp [eOp, oVar, R.bind, look, hc]
  · rw [decide_eq_false hi] at hlt
    obtain ⟨s', s3', h2, h3⟩ := cell_loop ns i ns 17 .no (by decide) rfl
    refine ⟨(s' + 7) * (i + 3) * 69621 % 2147483647, runD_ok rfl (e := [.fz (.scr ns), .fz (.int i), .fz (.int s'), s3']) ?_ rfl⟩
    unfold ev_cell
    refine (run_seq (e1 := [.fz (.scr ns), .fz (.int i), .no, .no]) (run_iff (e1 := [.fz (.scr ns), .fz (.int i), .no, .no]) ?_ rfl)).trans ?_
    · simp [initE, slotOf, bE, eOp, oVa, eBi, aCons, aNil, oVar, R.bind, look, looks, hlen, hlt]
    refine (run_seq (e1 := [.fz (.scr ns), .fz (.int i), .fz (.int 17), .no]) (by rfl)).trans ?_
    refine (run_seq (e1 := [.fz (.scr ns), .fz (.int i), .fz (.int s'), s3']) (for_ok (ds := ns.map .int) (e1 := [.fz (.scr ns), .fz (.int i), .fz (.int 17), .no]) (by rfl) h3)).trans ?_
    refine run_ret ?_
    have m1 : decide ((i + 3).natAbs < 18446744073709551616) = true := by rw [decide_eq_true_eq]; omega
    have m2 : decide ((69621 : Int).natAbs < 18446744073709551616) = true := by decide
    have q1 : modD (.int ((s' + 7) * (i + 3) * 69621)) (.int 2147483647) = some (.int ((s' + 7) * (i + 3) * 69621 % 2147483647)) := modD_ok (by decide)
    simp [eOp, oVa, eBi, aCons, aNil, oVar, eCst, R.bind, look, looks, intD, addD_int, mulI_r m1, mulI_r m2, q1]

/-! ### comprehensions -/
theorem lc_all {vs : List Nat} {st : D → En → Option En} {elt : M D} {E : En} {P : D → Prop} : ∀ {ds : List D}, (∀ d ∈ ds, ∃ e1 e2 y, st d (wipeE E vs) = some e1 ∧ elt e1 = .ok y e2 ∧ restore E e2 vs = E ∧ P y) →
    ∃ ys, lcL vs st bYes elt ds E = .ok ys E ∧ ys.length = ds.length ∧ ∀ y ∈ ys, P y
  | [], _ => ⟨[], rfl, rfl, fun _ z => nomatch z⟩
  | d :: ds, h => by
    obtain ⟨e1, e2, y, h1, h2, h3, h4⟩ := h d List.mem_cons_self
    obtain ⟨ys, g1, g2, g3⟩ := lc_all (ds := ds) fun d hd => h d (List.mem_cons_of_mem _ hd)
    refine ⟨y :: ys, ?_, congrArg Nat.succ g2, fun z hz => ?_⟩
    · rw [lcL]
      simp only [h1, bYes, h2, h3, g1]
    · rcases List.mem_cons.mp hz with rfl | hz
      · exact h4
      · exact g3 z hz
theorem nlc_ok {m : M (List D)} {vs : List Nat} {st : D → En → Option En} {elt : M D} {e E : En} {ds ys : List D} (h : m e = .ok ds E) (hn : noOw E vs = true) (hl : ds.length ≤ sizeLine) (h2 : lcL vs st bYes elt ds E = .ok ys E) : nLc m vs st bYes elt e = .ok (.lst ys) E := by
  unfold nLc
  simp only [h, R.bind, hn, hl, h2, and_self, if_true]

theorem str_ix {x : PySem.Str} {i : Int} (h0 : 0 ≤ i) (h1 : i < x.cps.toList.length) : ∃ c, ixD (.str x) (.int i) = some (.str ⟨#[c]⟩) := by
  have e : ((i.toNat : Nat) : Int) = i := Int.toNat_of_nonneg h0
  have hi : i.toNat < x.cps.toList.length := by omega
  obtain ⟨c, hc⟩ : ∃ c, x.cps.toList[i.toNat]? = some c := ⟨_, List.getElem?_eq_getElem hi⟩
  refine ⟨c, ?_⟩
  have q : L2.atI x.cps.toList i = some c := by rw [← e]; exact L2.atI_nat hc
  show (L2.atI x.cps.toList i).map (fun c => D.str ⟨#[c]⟩) = _
  rw [q]
  rfl
theorem joinL_len (S : List Nat) : ∀ ls : List (List Nat), (TL.joinL S ls).length ≤ (ls.map (·.length)).sum + ls.length * S.length
  | [] => Nat.zero_le _
  | [p] => by simp [TL.joinL]
  | p :: q :: r => by
    have h2 := joinL_len S (q :: r)
    show (p ++ (S ++ TL.joinL S (q :: r))).length ≤ _
    rw [List.length_append, List.length_append]
    simp only [List.map_cons, List.sum_cons, List.length_cons] at h2 ⊢
    have e : (r.length + 1 + 1) * S.length = (r.length + 1) * S.length + S.length := Nat.succ_mul _ _
    omega
theorem join_len (a : PySem.Str) (ys : List PySem.Str) : (Txt.join a ys).length ≤ (ys.map (·.length)).sum + ys.length * a.length := by
  rw [TL.join_eq]
  have e : (PySem.Str.join a ys).cps.toList = TL.joinL (TL.tl a) (ys.map TL.tl) := TL.tl_join a ys
  have h := joinL_len (TL.tl a) (ys.map TL.tl)
  rw [← e] at h
  have e1 : (ys.map TL.tl).map (·.length) = ys.map (·.length) := by
    rw [List.map_map]
    refine List.map_congr_left fun y _ => ?_
    show y.cps.toList.length = y.cps.size
    simp
  have e2 : (TL.tl a).length = a.length := by
    show a.cps.toList.length = a.cps.size
    simp
  rw [e1, e2, List.length_map] at h
  have e3 : (PySem.Str.join a ys).cps.toList.length = (PySem.Str.join a ys).length := by
    show _ = (PySem.Str.join a ys).cps.size
    simp
  omega
theorem lst_ix {out : List Int} {i d : Int} (h0 : 0 ≤ i) (h : out[i.toNat]? = some d) : ixD (.lst (out.map .int)) (.int i) = some (.int d) := by
  have e : ((i.toNat : Nat) : Int) = i := Int.toNat_of_nonneg h0
  rw [← e]
  exact ixL_ok (by rw [List.getElem?_map, h]; rfl)
end K37m
set_option Elab.async false
set_option linter.all false
set_option maxRecDepth 100000
set_option maxHeartbeats 4000000
/-! NB: numbers in decimal digits, as texts. -/
namespace K37m
open PySem PySem.Spec DP
open K37 hiding R
open TL (tl numL)

/-! ### plain -/
def isDig (c : Nat) : Bool := decide (48 ≤ c) && decide (c ≤ 57)
def isNum (l : List Nat) : Bool := match l with
  | [] => false
  | c :: r => (c != 48 || r.isEmpty) && (c :: r).all isDig
def numV (w : PySem.Str) : Option Nat := if isNum (tl w) = true then some (NumText.digitsVal (tl w)) else none
theorem allDig {l : List Nat} (h : l.all isDig = true) : NumText.AllDigits l := fun c hc => by
  have := List.all_eq_true.mp h c hc
  simpa [isDig] using this
theorem dig_all {l : List Nat} (h : NumText.AllDigits l) : l.all isDig = true := List.all_eq_true.mpr fun c hc => by simpa [isDig] using h c hc
theorem back (l : List Nat) (h : NumText.AllDigits l) : (l.map Char.ofNat).map Char.toNat = l := by
  rw [List.map_map]
  conv => rhs; rw [← List.map_id l]
  refine List.map_congr_left fun c hc => ?_
  have := h c hc
  have : ∀ n : Nat, n < 58 → (Char.ofNat n).toNat = n := by decide
  exact this c (by omega)
theorem canon {l : List Nat} (h : isNum l = true) : numL (NumText.digitsVal l) = l := by
  cases l with
  | nil => cases h
  | cons c r =>
    have h' : ((c != 48 || r.isEmpty) && (c :: r).all isDig) = true := h
    obtain ⟨h1, h2⟩ := Bool.and_eq_true_iff.mp h'
    have ad := allDig h2
    have hd := ad c List.mem_cons_self
    have e : Nat.toDigits 10 (NumText.digitsVal (c :: r)) = (c :: r).map Char.ofNat := NumText.toDigits_digitsVal r.length (c :: r) rfl ad (by
      rcases Bool.or_eq_true_iff.mp h1 with q | q
      · refine .inr ⟨c, r, rfl, ?_⟩
        have : c ≠ 48 := by simpa using q
        omega
      · left
        simpa using q)
    unfold numL
    rw [e]
    exact back _ ad
theorem num_is (n : Nat) : isNum (numL n) = true := by
  have ad := TL.numL_digits n
  cases q : numL n with
  | nil => exact absurd q (TL.numL_ne n)
  | cons c r =>
    show ((c != 48 || r.isEmpty) && (c :: r).all isDig) = true
    rw [q] at ad
    rw [dig_all ad, Bool.and_true]
    by_cases h0 : n < 10
    · rw [TL.numL_lt h0] at q
      cases q
      simp
    · have : ∀ m : Nat, 1 ≤ m → ∃ d t, numL m = d :: t ∧ d ≠ 48 := by
        intro m
        induction m using Nat.strongRecOn with
        | _ m ih =>
          intro hm
          by_cases h : m < 10
          · exact ⟨48 + m, [], TL.numL_lt h, by omega⟩
          · obtain ⟨d, t, e, hd⟩ := ih (m / 10) (by omega) (by omega)
            exact ⟨d, t ++ [48 + m % 10], by rw [TL.numL_step (by omega), e]; rfl, hd⟩
      obtain ⟨d, t, e, hd⟩ := this n (by omega)
      rw [q] at e
      cases e
      simp [hd]
def numS (n : Nat) : PySem.Str := Str.ofString (toString ((n : Nat) : Int))
theorem tl_numS (n : Nat) : tl (numS n) = numL n := TL.tl_num n
theorem numV_num (n : Nat) : numV (numS n) = some n := by
  unfold numV
  rw [tl_numS, if_pos (num_is n), TL.numL_val]
theorem numV_some {w : PySem.Str} {n : Nat} (h : numV w = some n) : w = numS n := by
  unfold numV at h
  by_cases c : isNum (tl w) = true
  · rw [if_pos c] at h
    have e := Option.some.inj h
    refine TL.ext_tl ?_
    rw [tl_numS, ← e, canon c]
  · rw [if_neg c] at h
    cases h
theorem numV_isNum {w : PySem.Str} : (numV w).isSome = isNum (tl w) := by
  unfold numV
  by_cases c : isNum (tl w) = true
  · rw [if_pos c, c]; rfl
  · rw [if_neg c, Bool.eq_false_iff.mpr c]; rfl
theorem numS_len {n k : Nat} (hk : 0 < k) (h : n < 10 ^ k) : (numS n).length ≤ k := by
  rw [TL.len_tl, tl_numS]
  exact TL.numL_len hk h
theorem numS_long {n k : Nat} (h : 10 ^ k ≤ n) : k < (numS n).length := by
  rw [TL.len_tl, tl_numS]
  induction k generalizing n with
  | zero => exact List.length_pos_iff.mpr (TL.numL_ne n)
  | succ k ih =>
    have h10 : 10 ≤ n := by
      have : 10 ^ 1 ≤ 10 ^ (k + 1) := Nat.pow_le_pow_right (by decide) (by omega)
      omega
    rw [TL.numL_step h10, List.length_append]
    have := ih (n := n / 10) (by
      rw [Nat.le_div_iff_mul_le (by decide)]
      rw [Nat.pow_succ] at h
      exact h)
    simpa using this
/-! ### by data: small facts -/
theorem eqD_str (a b : PySem.Str) : eqD (.str a) (.str b) = some (.bl (a == b)) := rfl
theorem neD_str (a b : PySem.Str) : neD (.str a) (.str b) = some (.bl (!(a == b))) := rfl
theorem eqD_int (a b : Int) : eqD (.int a) (.int b) = some (.bl (a == b)) := rfl
theorem neD_int (a b : Int) : neD (.int a) (.int b) = some (.bl (!(a == b))) := rfl
theorem str_beq (a b : PySem.Str) : (a == b) = (tl a == tl b) := by
  rw [Bool.eq_iff_iff, beq_iff_eq, beq_iff_eq]
  exact ⟨fun h => by rw [h], fun h => TL.ext_tl h⟩
theorem digs : tl ("0123456789" : PySem.Str) = [48, 49, 50, 51, 52, 53, 54, 55, 56, 57] := by decide +kernel
theorem in_digs (c : Nat) : decide (c ∈ ("0123456789" : PySem.Str).cps.toList) = isDig c := by
  have e : ("0123456789" : PySem.Str).cps.toList = [48, 49, 50, 51, 52, 53, 54, 55, 56, 57] := digs
  rw [e]
  unfold isDig
  rw [Bool.eq_iff_iff]
  simp only [List.mem_cons, List.not_mem_nil, or_false, decide_eq_true_eq, Bool.and_eq_true]
  omega
theorem inD_dig (neg : Bool) (c : Nat) : inD neg (.str ⟨#[c]⟩) (.str "0123456789") = some (.bl (if neg then !(isDig c) else isDig c)) := by
  show some (D.bl (let r := decide (c ∈ ("0123456789" : PySem.Str).cps.toList); if neg then !r else r)) = _
  rw [in_digs]
theorem ix_head {w : PySem.Str} {c : Nat} {r : List Nat} (h : tl w = c :: r) : ixD (.str w) (.int 0) = some (.str ⟨#[c]⟩) := by
  have q : L2.atI w.cps.toList (0 : Int) = some c := by
    have h' : w.cps.toList = c :: r := h
    rw [h']
    exact L2.atI_nat (xs := c :: r) (j := 0) (v := c) rfl
  show (L2.atI w.cps.toList (0 : Int)).map (fun c => D.str ⟨#[c]⟩) = _
  rw [q]
  rfl
theorem one_beq (c : Nat) : ((⟨#[c]⟩ : PySem.Str) == "0") = (c == 48) := by
  rw [str_beq]
  show ([c] == tl ("0" : PySem.Str)) = _
  rw [show tl ("0" : PySem.Str) = [48] by decide +kernel]
  simp
theorem bls_map {α : Type} (f : α → Bool) : ∀ l : List α, blsD (l.map fun a => D.bl (f a)) = some (l.map f)
  | [] => rfl
  | a :: l => by
    show (blsD (l.map fun a => D.bl (f a))).map (f a :: ·) = _
    rw [bls_map f l]
    rfl
/-- a comprehension whose element is told for each item -/
theorem lc_map {α : Type} {vs : List Nat} {st : D → En → Option En} {elt : M D} {E : En} {g : α → D} {f : α → D} : ∀ {as : List α}, (∀ a ∈ as, ∃ e1 e2, st (g a) (wipeE E vs) = some e1 ∧ elt e1 = .ok (f a) e2 ∧ restore E e2 vs = E) → lcL vs st bYes elt (as.map g) E = .ok (as.map f) E
  | [], _ => rfl
  | a :: as, h => by
    obtain ⟨e1, e2, h1, h2, h3⟩ := h a List.mem_cons_self
    have ih := lc_map (as := as) (g := g) (f := f) fun b hb => h b (List.mem_cons_of_mem _ hb)
    rw [List.map_cons, lcL]
    simp only [h1, bYes, h2, h3, ih]
    rfl
theorem empty_beq (w : PySem.Str) : (w == "") = (tl w).isEmpty := by
  rw [str_beq, show tl ("" : PySem.Str) = [] by decide +kernel]
  cases tl w <;> rfl
theorem len_str (w : PySem.Str) : w.length = (tl w).length := TL.len_tl w

/-! ### writes_number -/
theorem wn_ok (w : PySem.Str) (hw : w.length ≤ sizeLine) : den_writes_number [.str w] = .ok (.bl (isNum (tl w))) [] := by
  cases ht : tl w with
  | nil =>
    have h0 : (w == "") = true := by rw [empty_beq, ht]; rfl
    refine runD_ok rfl (e := [.fz (.str w), .no]) ?_ rfl
    unfold ev_writes_number
    refine run_rt (run_ift (e1 := [.fz (.str w), .no]) ?_ rfl)
    simp [initE, slotOf, bOr, bE, eOp, oVa, oVar, eCst, R.bind, look, eqD_str, h0]
  | cons c r =>
    have h0 : (w == "") = false := by rw [empty_beq, ht]; rfl
    have hix := ix_head ht
    have hz : (w == "0") = (c == 48 && r.isEmpty) := by
      rw [str_beq, ht, show tl ("0" : PySem.Str) = [48] by decide +kernel]
      cases r <;> simp
    by_cases hb : c = 48 ∧ r ≠ []
    · obtain ⟨rfl, hr⟩ := hb
      have e : isNum (48 :: r) = false := by
        cases r with
        | nil => exact absurd rfl hr
        | cons _ _ => rfl
      rw [e]
      have hz' : (w == "0") = false := by
        rw [hz]
        cases r with
        | nil => exact absurd rfl hr
        | cons _ _ => rfl
      refine runD_ok rfl (e := [.fz (.str w), .no]) ?_ rfl
      unfold ev_writes_number
      refine run_rt (run_ift (e1 := [.fz (.str w), .no]) ?_ rfl)
      simp [initE, slotOf, bOr, bAnd, bE, eOp, oVa, oVar, eCst, R.bind, look, eqD_str, neD_str, h0, hix, one_beq, hz']
    · have e : isNum (c :: r) = (c :: r).all isDig := by
        show ((c != 48 || r.isEmpty) && (c :: r).all isDig) = _
        have : (c != 48 || r.isEmpty) = true := by
          by_cases hc : c = 48
          · have hr : r = [] := Classical.byContradiction fun z => hb ⟨hc, z⟩
            rw [hr]; simp
          · simp [hc]
        rw [this, Bool.true_and]
      rw [e]
      have hcond : (bOr (bE (eOp eqD (oVar 0) (oVa (eCst (.str ""))))) (bAnd (bE (eOp eqD (oVa (eOp ixD (oVar 0) (oVa (eCst (.int 0))))) (oVa (eCst (.str "0"))))) (bE (eOp neD (oVar 0) (oVa (eCst (.str "0"))))))) [.fz (.str w), .no] = .ok false [.fz (.str w), .no] := by
        by_cases hc : c = 48
        · have hr : r = [] := Classical.byContradiction fun z => hb ⟨hc, z⟩
          have hz' : (w == "0") = true := by rw [hz, hc, hr]; rfl
          simp [bOr, bAnd, bE, eOp, oVa, oVar, eCst, R.bind, look, eqD_str, neD_str, h0, hix, one_beq, hz']
        · simp [bOr, bAnd, bE, eOp, oVa, oVar, eCst, R.bind, look, eqD_str, neD_str, h0, hix, one_beq, hc]
      have hl : lcL [1] (gN 1) bYes y1_writes_number ((tl w).map fun c => D.str ⟨#[c]⟩) [.fz (.str w), .no] = .ok ((tl w).map fun c => D.bl (isDig c)) [.fz (.str w), .no] := lc_map fun a _ => by
        refine ⟨[.fz (.str w), .fz (.str ⟨#[a]⟩)], [.fz (.str w), .fz (.str ⟨#[a]⟩)], rfl, ?_, rfl⟩
        unfold y1_writes_number
        simp [eOp, oVa, oVar, eCst, R.bind, look, inD_dig]
      have hn : nLc (iD (eVar 0)) [1] (gN 1) bYes y1_writes_number [.fz (.str w), .no] = .ok (.lst ((tl w).map fun c => D.bl (isDig c))) [.fz (.str w), .no] :=
        nlc_ok (ds := (tl w).map fun c => D.str ⟨#[c]⟩) rfl rfl (by rw [List.length_map, ← len_str]; exact hw) hl
      have ha : allD [.lst ((tl w).map fun c => D.bl (isDig c))] = some (.bl ((c :: r).all isDig)) := by
        show (blsD ((tl w).map fun c => D.bl (isDig c))).map (fun bs => D.bl (bs.all id)) = _
        rw [bls_map, ht]
        simp
      refine runD_ok rfl (e := [.fz (.str w), .no]) ?_ rfl
      unfold ev_writes_number
      refine (run_seq (e1 := [.fz (.str w), .no]) (run_iff hcond rfl)).trans (run_ret ?_)
      generalize nLc (iD (eVar 0)) [1] (gN 1) bYes y1_writes_number = N at hn
      simp [eBi, aCons, aNil, oVa, R.bind, looks, look, hn, ha]
end K37m
set_option Elab.async false
set_option linter.all false
set_option maxRecDepth 100000
set_option maxHeartbeats 4000000
/-! NC: read_number, the law's own number, the first line. -/
namespace K37m
open PySem PySem.Spec DP
open K37 hiding R
open TL (tl numL)

theorem call_ok {pm : List Bool} {den : List D → DR} {m : M (List Op)} {os : List Op} {ds ms : List D} {d : D} {e e1 : En} (h1 : m e = .ok os e1) (h2 : argsOf e1 pm os = some ds) (h3 : (mIx pm os).Nodup) (h4 : den ds = .ok d ms) : eCall pm den m e = .ok d (wback pm os ms e1) := run_call h1 h2 h3 h4
/-- what read_number answers -/
def rnV (w : PySem.Str) : D := match numV w with
  | some n => if n ≤ 399 then .int (n : Nat) else .non
  | none => .non
theorem int_numS {w : PySem.Str} {n : Nat} (h : numV w = some n) (hl : w.length ≤ 640) : intSD [.str w] = some (.int (n : Nat)) := by
  have e := numV_some h
  have q : PySem.intText? w = some (n : Int) := by
    rw [e]
    refine TL.int_num ?_
    rw [← tl_numS, ← TL.len_tl, ← e]
    omega
  show (if w.length ≤ 640 then (PySem.intText? w).map D.int else none) = _
  rw [if_pos hl, q]
  rfl
theorem rn_ok (w : PySem.Str) (hw : w.length ≤ sizeLine) : den_read_number [.str w, .int 399] = .ok (rnV w) [] := by
  have hwn := wn_ok w hw
  have h399 : strD [.int 399] = some (.str "399") := by kernel_rfl
  have l399 : lenD [.str "399"] = some (.int 3) := by kernel_rfl
  have lw : lenD [.str w] = some (.int w.length) := rfl
  unfold rnV
  cases hn : numV w with
  | none =>
    have hb : isNum (tl w) = false := by rw [← numV_isNum, hn]; rfl
    rw [hb] at hwn
    refine runD_ok rfl (e := [.fz (.str w), .fz (.int 399), .no]) ?_ rfl
    unfold ev_read_number
    refine run_rt (run_ift (e1 := [.fz (.str w), .fz (.int 399), .no]) ?_ rfl)
    simp [initE, slotOf, bOr, bNot, bE, eCall, eVar, oVa, aCons, aNil, R.bind, argsOf, mIx, wback, hwn]
  | some n =>
    have hb : isNum (tl w) = true := by rw [← numV_isNum, hn]; rfl
    rw [hb] at hwn
    by_cases hl : w.length ≤ 3
    · have hi := int_numS hn (by omega)
      have hle : leD (.int (n : Nat)) (.int 399) = some (.bl (decide ((n : Int) ≤ 399))) := rfl
      have hg : gtD (.int w.length) (.int 3) = some (.bl false) := by
        show some (D.bl (decide ((3 : Int) < w.length))) = _
        rw [decide_eq_false (by omega)]
      refine runD_ok rfl (e := [.fz (.str w), .fz (.int 399), .fz (.int (n : Nat))]) ?_ rfl
      unfold ev_read_number
      refine (run_seq (e1 := [.fz (.str w), .fz (.int 399), .no]) (run_iff (e1 := [.fz (.str w), .fz (.int 399), .no]) ?_ rfl)).trans ?_
      · simp [initE, slotOf, bOr, bNot, bE, eOp, eBi, eCall, eVar, oVar, oVa, aCons, aNil, R.bind, argsOf, mIx, wback, look, looks, hwn, h399, l399, lw, hg]
      refine (run_seq (e1 := [.fz (.str w), .fz (.int 399), .fz (.int (n : Nat))]) ?_).trans ?_
      · simp [sSet, free, eBi, oVar, aCons, aNil, R.bind, look, looks, hi]
      · by_cases h : n ≤ 399
        · have : decide ((n : Int) ≤ 399) = true := decide_eq_true (by omega)
          rw [this] at hle
          simp [sRet, eIf, bE, eOp, oVar, eVar, R.bind, look, hle, h]
        · have : decide ((n : Int) ≤ 399) = false := decide_eq_false (by omega)
          rw [this] at hle
          simp [sRet, eIf, bE, eOp, oVar, eVar, eCst, R.bind, look, hle, h]
    · have hn1000 : ¬ n ≤ 399 := fun h => hl (by
        rw [numV_some hn]
        exact numS_len (by decide) (by omega))
      have hg : gtD (.int w.length) (.int 3) = some (.bl true) := by
        show some (D.bl (decide ((3 : Int) < w.length))) = _
        rw [decide_eq_true (by omega)]
      refine runD_ok rfl (e := [.fz (.str w), .fz (.int 399), .no]) ?_ rfl
      unfold ev_read_number
      refine run_rt (run_ift (e1 := [.fz (.str w), .fz (.int 399), .no]) ?_ ?_)
      · simp [initE, slotOf, bOr, bNot, bE, eOp, eBi, eCall, eVar, oVar, oVa, aCons, aNil, R.bind, argsOf, mIx, wback, look, looks, hwn, h399, l399, lw, hg]
      · simp [sRet, eCst, hn1000]
/-! ### the law's number -/
def numI (w : PySem.Str) : Int := match numV w with
  | some n => (n : Nat)
  | none => -1
theorem sidx {c : Nat} (h : isDig c = true) : sindexD (.str "0123456789") [.str ⟨#[c]⟩] = some (.int ((c - 48 : Nat) : Int)) := by
  have hc : 48 ≤ c ∧ c ≤ 57 := by simpa [isDig] using h
  have key : ∀ k, k < 10 → (Txt.index0 ("0123456789" : PySem.Str) ⟨#[48 + k]⟩) = some k := by decide +kernel
  show (Txt.index0 ("0123456789" : PySem.Str) ⟨#[c]⟩).map (fun k => D.int (k : Nat)) = _
  have e := key (c - 48) (by omega)
  rw [show 48 + (c - 48) = c by omega] at e
  rw [e]
  rfl
def numF (cs : List Nat) (v : Nat) : Nat := cs.foldl (fun acc c => acc * 10 + (c - 48)) v
theorem num_loop (w : PySem.Str) : ∀ (cs : List Nat) (v : Nat) (s2 : Sl), nm s2 = true → (cs.all isDig = true → ∃ s2', forL (gN 2) b1_number (cs.map fun c => D.str ⟨#[c]⟩) [.fz (.str w), .fz (.int (v : Nat)), s2] = .ok .nx [.fz (.str w), .fz (.int (numF cs v : Nat)), s2']) ∧
      (cs.all isDig = false → ∃ a b, forL (gN 2) b1_number (cs.map fun c => D.str ⟨#[c]⟩) [.fz (.str w), .fz (.int (v : Nat)), s2] = .ok (.rt (.int (-1))) [.fz (.str w), a, b])
  | [], v, s2, _ => ⟨fun _ => ⟨s2, rfl⟩, fun h => nomatch h⟩
  | c :: cs, v, s2, h2 => by
    obtain ⟨g1, g2⟩ := num_loop w cs (v * 10 + (c - 48)) (.fz (.str ⟨#[c]⟩)) rfl
    have fr : free [.fz (.str w), .fz (.int (v : Nat)), s2] 2 = true := free_of rfl h2
    cases hc : isDig c with
    | false =>
      refine ⟨fun h => (by rw [List.all_cons, hc] at h; cases h), fun _ => ⟨.fz (.int (v : Nat)), .fz (.str ⟨#[c]⟩), ?_⟩⟩
      have hb : b1_number [.fz (.str w), .fz (.int (v : Nat)), .fz (.str ⟨#[c]⟩)] = .ok (.rt (.int (-1))) [.fz (.str w), .fz (.int (v : Nat)), .fz (.str ⟨#[c]⟩)] := by
        unfold b1_number
        refine run_rt (run_ift (e1 := [.fz (.str w), .fz (.int (v : Nat)), .fz (.str ⟨#[c]⟩)]) ?_ rfl)
        simp [bE, eOp, oVar, oVa, eCst, R.bind, look, inD_dig, hc]
      rw [List.map_cons, forL]
      simp only [gN_ok fr]
      show (b1_number [.fz (.str w), .fz (.int (v : Nat)), .fz (.str ⟨#[c]⟩)]).bind _ = _
      rw [hb]
    | true =>
      have hb : b1_number [.fz (.str w), .fz (.int (v : Nat)), .fz (.str ⟨#[c]⟩)] = .ok .nx [.fz (.str w), .fz (.int ((v * 10 + (c - 48) : Nat) : Int)), .fz (.str ⟨#[c]⟩)] := by
        have m1 : decide ((10 : Int).natAbs < 18446744073709551616) = true := by decide
        unfold b1_number
        refine (run_seq (e1 := [.fz (.str w), .fz (.int (v : Nat)), .fz (.str ⟨#[c]⟩)]) (run_iff (e1 := [.fz (.str w), .fz (.int (v : Nat)), .fz (.str ⟨#[c]⟩)]) ?_ rfl)).trans ?_
        · simp [bE, eOp, oVar, oVa, eCst, R.bind, look, inD_dig, hc]
        · have e : ((v * 10 + (c - 48) : Nat) : Int) = (v : Int) * 10 + ((c - 48 : Nat) : Int) := by push_cast; rfl
          rw [e]
          simp [sSet, free, eOp, eMt, tyD, oVar, oVa, eCst, aCons, aNil, R.bind, look, looks, mulI_r m1, sidx hc, addD_int]
      refine ⟨fun h => ?_, fun h => ?_⟩
      · rw [List.all_cons, hc, Bool.true_and] at h
        obtain ⟨s', q⟩ := g1 h
        refine ⟨s', ?_⟩
        rw [List.map_cons]
        exact (forL_cons (gN_ok fr) hb).trans q
      · rw [List.all_cons, hc, Bool.true_and] at h
        obtain ⟨s', t', q⟩ := g2 h
        refine ⟨s', t', ?_⟩
        rw [List.map_cons]
        exact (forL_cons (gN_ok fr) hb).trans q
theorem ln_ok (w : PySem.Str) : den_number [.str w] = .ok (.int (numI w)) [] := by
  have lw : lenD [.str w] = some (.int w.length) := rfl
  cases ht : tl w with
  | nil =>
    have e : numI w = -1 := by unfold numI numV; rw [ht]; rfl
    have hl : ltD (.int w.length) (.int 1) = some (.bl true) := by
      show some (D.bl (decide ((w.length : Int) < 1))) = _
      rw [decide_eq_true (by rw [len_str, ht]; decide)]
    rw [e]
    refine runD_ok rfl (e := [.fz (.str w), .no, .no]) ?_ rfl
    unfold ev_number
    refine run_rt (run_ift (e1 := [.fz (.str w), .no, .no]) ?_ rfl)
    simp [initE, slotOf, bOr, bE, eOp, eBi, oVa, oVar, eCst, aCons, aNil, R.bind, look, looks, lw, hl]
  | cons c r =>
    have hix := ix_head ht
    have hlen : w.length = r.length + 1 := by rw [len_str, ht]; rfl
    have hl : ltD (.int w.length) (.int 1) = some (.bl false) := by
      show some (D.bl (decide ((w.length : Int) < 1))) = _
      rw [decide_eq_false (by omega)]
    have hg : gtD (.int w.length) (.int 1) = some (.bl (!r.isEmpty)) := by
      show some (D.bl (decide ((1 : Int) < w.length))) = _
      rw [hlen]
      cases r with
      | nil => rfl
      | cons _ _ => rw [decide_eq_true (by simp only [List.length_cons]; omega)]; rfl
    by_cases hb : c = 48 ∧ r ≠ []
    · obtain ⟨rfl, hr⟩ := hb
      have hre : r.isEmpty = false := by cases r with
        | nil => exact absurd rfl hr
        | cons _ _ => rfl
      rw [hre] at hg
      have e : numI w = -1 := by
        unfold numI numV
        rw [ht, show isNum (48 :: r) = false by
          show ((48 != 48 || r.isEmpty) && _) = false
          rw [hre]; rfl]
        rfl
      rw [e]
      refine runD_ok rfl (e := [.fz (.str w), .no, .no]) ?_ rfl
      unfold ev_number
      refine run_rt (run_ift (e1 := [.fz (.str w), .no, .no]) ?_ rfl)
      simp [initE, slotOf, bOr, bAnd, bE, eOp, eBi, oVa, oVar, eCst, aCons, aNil, R.bind, look, looks, lw, hl, hg, hix, eqD_str, one_beq]
    · have ei : isNum (c :: r) = (c :: r).all isDig := by
        show ((c != 48 || r.isEmpty) && (c :: r).all isDig) = _
        have : (c != 48 || r.isEmpty) = true := by
          by_cases hc : c = 48
          · have hr : r = [] := Classical.byContradiction fun z => hb ⟨hc, z⟩
            rw [hr]; simp
          · simp [hc]
        rw [this, Bool.true_and]
      have hcond : (bOr (bE (eOp ltD (oVa (eBi lenD (aCons (oVar 0) aNil))) (oVa (eCst (.int 1))))) (bAnd (bE (eOp eqD (oVa (eOp ixD (oVar 0) (oVa (eCst (.int 0))))) (oVa (eCst (.str "0"))))) (bE (eOp gtD (oVa (eBi lenD (aCons (oVar 0) aNil))) (oVa (eCst (.int 1))))))) [.fz (.str w), .no, .no] = .ok false [.fz (.str w), .no, .no] := by
        by_cases hc : c = 48
        · have hr : r = [] := Classical.byContradiction fun z => hb ⟨hc, z⟩
          rw [hr] at hg
          simp [bOr, bAnd, bE, eOp, eBi, oVa, oVar, eCst, aCons, aNil, R.bind, look, looks, lw, hl, hg, hix, eqD_str, one_beq]
        · simp [bOr, bAnd, bE, eOp, eBi, oVa, oVar, eCst, aCons, aNil, R.bind, look, looks, lw, hl, hg, hix, eqD_str, one_beq, hc]
      obtain ⟨g1, g2⟩ := num_loop w (c :: r) 0 .no rfl
      have hit : (iD (eVar 0)) [.fz (.str w), .fz (.int ((0 : Nat) : Int)), .no] = .ok ((c :: r).map fun c => D.str ⟨#[c]⟩) [.fz (.str w), .fz (.int ((0 : Nat) : Int)), .no] := by
        rw [← ht]
        rfl
      cases hall : (c :: r).all isDig with
      | true =>
        obtain ⟨s', q⟩ := g1 hall
        have e : numI w = ((numF (c :: r) 0 : Nat) : Int) := by
          unfold numI numV
          rw [ht, ei, hall]
          rfl
        rw [e]
        refine runD_ok rfl (e := [.fz (.str w), .fz (.int (numF (c :: r) 0 : Nat)), s']) ?_ rfl
        unfold ev_number
        refine (run_seq (e1 := [.fz (.str w), .no, .no]) (run_iff hcond rfl)).trans ?_
        refine (run_seq (e1 := [.fz (.str w), .fz (.int ((0 : Nat) : Int)), .no]) rfl).trans ?_
        exact (run_seq (for_ok hit q)).trans rfl
      | false =>
        obtain ⟨a', b', q⟩ := g2 hall
        have e : numI w = -1 := by
          unfold numI numV
          rw [ht, ei, hall]
          rfl
        rw [e]
        refine runD_ok rfl (e := [.fz (.str w), a', b']) ?_ rfl
        unfold ev_number
        refine (run_seq (e1 := [.fz (.str w), .no, .no]) (run_iff hcond rfl)).trans ?_
        refine (run_seq (e1 := [.fz (.str w), .fz (.int ((0 : Nat) : Int)), .no]) rfl).trans ?_
        exact run_rt (for_ok hit q)
end K37m
set_option Elab.async false
set_option linter.all false
set_option maxRecDepth 100000
set_option maxHeartbeats 4000000
/-! ND: lines and words; the first line; the program's reader. -/
namespace K37m
open PySem PySem.Spec DP
open K37 hiding R
open TL (tl numL)

def sp (l : PySem.Str) : List PySem.Str := Txt.split l " "
def lnS (t : PySem.Str) : List PySem.Str := Txt.split t "\n"
def BIG : Nat := 200000
theorem big_line : BIG + 2 ≤ sizeLine := by rw [sizeLine_eq]; decide
theorem sp_D {l : PySem.Str} (h : l.length ≤ BIG) : splitD (.str l) [.str " "] = some (.lst ((sp l).map D.str)) := by
  have := big_line
  show (if ((" " : PySem.Str).length == 0) = false ∧ l.length + 2 ≤ sizeLine then some (D.lst ((Txt.split l " ").map D.str)) else none) = _
  rw [if_pos ⟨by decide +kernel, by omega⟩]
  rfl
theorem ln_D {l : PySem.Str} (h : l.length ≤ BIG) : splitD (.str l) [.str "\n"] = some (.lst ((lnS l).map D.str)) := by
  have := big_line
  show (if (("\n" : PySem.Str).length == 0) = false ∧ l.length + 2 ≤ sizeLine then some (D.lst ((Txt.split l "\n").map D.str)) else none) = _
  rw [if_pos ⟨by decide +kernel, by omega⟩]
  rfl
theorem joined (a b : PySem.Str) : TL.joinL (tl b) ((Txt.split a b).map tl) = tl a := by
  rw [← TL.tl_join, PySem.StrLaws.join_split]
theorem part_len {a b z : PySem.Str} (h : z ∈ Txt.split a b) : z.length ≤ a.length := by
  have e := (mem_joinL (S := tl b) (List.mem_map_of_mem (f := tl) h)).2
  rw [joined] at e
  rw [len_str, len_str]
  exact e
theorem part_cnt {a b : PySem.Str} (hb : tl b ≠ []) : (Txt.split a b).length ≤ a.length + 1 := by
  have h := cnt_joinL hb ((Txt.split a b).map tl)
  rw [joined, List.length_map] at h
  rw [len_str a]
  exact h
theorem tl_sp : tl (" " : PySem.Str) = [32] := by decide +kernel
theorem tl_nl : tl ("\n" : PySem.Str) = [10] := by decide +kernel
theorem sp_cnt (l : PySem.Str) : (sp l).length ≤ l.length + 1 := part_cnt (by rw [tl_sp]; simp)
theorem ln_cnt (l : PySem.Str) : (lnS l).length ≤ l.length + 1 := part_cnt (by rw [tl_nl]; simp)
theorem split_ne (a b : PySem.Str) (hb : tl b ≠ []) (hk : b.cps.all (· < 256) = true) : Txt.split a b ≠ [] := by
  intro z
  have e := TL.split_spl a b hb (TL.kind_ok hk)
  rw [z] at e
  have : ∀ (k : Nat) (acc l : List Nat), TL.spl (tl b) k acc l ≠ [] := by
    intro k acc l
    induction l generalizing k acc with
    | nil => rw [TL.spl_nil]; simp
    | cons c r ih =>
      cases k with
      | zero =>
        cases hp : TL.pre (tl b) (c :: r) with
        | true => rw [TL.spl_hit hp]; simp
        | false => rw [TL.spl_miss hp]; exact ih 0 _
      | succ k => rw [TL.spl_pass]; cases q : (c :: r).drop (k + 1) with
        | nil => rw [TL.spl_nil]; simp
        | cons d t =>
          have := ih k acc
          rw [TL.spl_pass] at this
          rw [List.drop_succ_cons] at q
          rw [q] at this
          exact this
  exact this 0 [] (tl a) e.symm
theorem sp_ne (l : PySem.Str) : sp l ≠ [] := split_ne _ _ (by rw [tl_sp]; simp) (by decide +kernel)
theorem ln_ne (l : PySem.Str) : lnS l ≠ [] := split_ne _ _ (by rw [tl_nl]; simp) (by decide +kernel)

/-! ### the first line -/
def isSide (b : PySem.Str) : Bool := z_SIDES.contains b
def hdV (l : PySem.Str) : Option (PySem.Str × Nat) := match sp l with
  | [a, b, c] => if (a == "paper" && isSide b) = true then (numV c).map fun n => (b, n) else none
  | _ => none
def manyP (n : Nat) : Nat := if 18 < (numS n).length then 1000000000000000000 else n
theorem in_sides (neg : Bool) (b : PySem.Str) : inD neg (.str b) (.tup (z_SIDES.map D.str)) = some (.bl (if neg then !(isSide b) else isSide b)) := by
  have e : (z_SIDES.map D.str).any (fun z => eqB z (.str b)) = isSide b := by
    show (("yes" == b) || (("no" == b) || (("taken" == b) || (("never" == b) || false)))) = z_SIDES.contains b
    show _ = ((b == "yes") || ((b == "no") || ((b == "taken") || ((b == "never") || false))))
    have c : ∀ x y : PySem.Str, (x == y) = (y == x) := fun x y => by
      rw [Bool.eq_iff_iff, beq_iff_eq, beq_iff_eq]
      exact ⟨Eq.symm, Eq.symm⟩
    rw [c "yes", c "no", c "taken", c "never"]
  show some (D.bl (let r := (z_SIDES.map D.str).any (fun z => eqB z (.str b)); if neg then !r else r)) = _
  rw [e]
theorem runD_ex {pm : List Bool} {n : Nat} {m : M Fl} {ds : List D} {c : PySem.Str} {fs : List (PySem.Str × D)} {e : En} {ms : List D} (hl : ds.length = pm.length) (h : m (initE pm n ds) = .ex c fs e) (hm : muts pm e = some ms) : runD pm n m ds = .ex c fs ms := by
  unfold runD
  rw [if_pos hl, h]
  show (match muts pm e with
    | some ms => DR.ex c fs ms
    | none => .bad) = _
  rw [hm]
theorem run_ex {m n : M Fl} {e e1 : En} {c : PySem.Str} {fs : List (PySem.Str × D)} (h : m e = .ex c fs e1) : sSeq m n e = .ex c fs e1 := by
  unfold sSeq
  rw [h]
theorem x3a {a b c : D} : ixD (.lst [a, b, c]) (.int 0) = some a := rfl
theorem x3b {a b c : D} : ixD (.lst [a, b, c]) (.int 1) = some b := rfl
theorem x3c {a b c : D} : ixD (.lst [a, b, c]) (.int 2) = some c := rfl
theorem len3 {a b c : D} : lenD [.lst [a, b, c]] = some (.int 3) := rfl
theorem hd_len {l : PySem.Str} (h : (sp l).length ≠ 3) : hdV l = none := by
  unfold hdV
  split
  · rename_i e
    rw [e] at h
    exact absurd rfl h
  · rfl
def noteX (k : Nat) : DR := .ex "BadNote" [("line", .int (k : Nat))] []
theorem rf_ok (l : PySem.Str) (hl : l.length ≤ BIG) : den_read_first [.str l] = match hdV l with
    | some (b, n) => .ok (.tup [.str b, .int (manyP n : Nat)]) []
    | none => noteX 1 := by
  have hs := sp_D hl
  have bl := big_line
  have st : (sSet 1 (eMt "str" splitD (oVar 0) (aCons (oVa (eCst (.str " "))) aNil))) [.fz (.str l), .no] = .ok .nx [.fz (.str l), .fz (.lst ((sp l).map D.str))] := by
    simp [sSet, free, eMt, tyD, oVar, oVa, eCst, aCons, aNil, R.bind, look, looks, hs]
  have l3 : lenD [.lst ((sp l).map D.str)] = some (.int (sp l).length) := by
    show some (D.int ((sp l).map D.str).length) = _
    rw [List.length_map]
  by_cases h3 : (sp l).length = 3
  · obtain ⟨a, b, c, habc⟩ : ∃ a b c, sp l = [a, b, c] := by
      match hq : sp l, h3 with
      | [a, b, c], _ => exact ⟨a, b, c, rfl⟩
    have hc : c.length ≤ l.length := part_len (b := " ") (show c ∈ sp l by rw [habc]; simp)
    have hwn := wn_ok c (by omega)
    rw [habc] at st l3
    have hv : hdV l = if (a == "paper" && isSide b) = true then (numV c).map fun n => (b, n) else none := by
      unfold hdV
      rw [habc]
    have bad : (a == "paper" && isSide b) = false ∨ isNum (tl c) = false → den_read_first [.str l] = noteX 1 := fun hb => by
      refine runD_ex rfl (e := [.fz (.str l), .fz (.lst ([a, b, c].map D.str))]) ?_ rfl
      unfold ev_read_first
      refine (run_seq st).trans (run_ex (run_ift (e1 := [.fz (.str l), .fz (.lst ([a, b, c].map D.str))]) ?_ rfl))
      cases ha : (a == "paper") with
      | false => simp [bOr, bE, bNot, eOp, eBi, oVar, oVa, eCst, aCons, aNil, R.bind, look, looks, len3, neD_int, neD_str, x3a, ha]
      | true =>
        cases hi : isSide b with
        | false => simp [bOr, bE, bNot, eOp, eBi, oVar, oVa, eCst, aCons, aNil, R.bind, look, looks, len3, neD_int, neD_str, x3a, x3b, ha, in_sides, hi]
        | true =>
          have hn : isNum (tl c) = false := by
            rcases hb with hb | hb
            · rw [ha, hi] at hb; cases hb
            · exact hb
          rw [hn] at hwn
          simp [bOr, bE, bNot, eOp, eBi, eCall, argsOf, mIx, wback, oVar, oVa, eCst, aCons, aNil, R.bind, look, looks, len3, neD_int, neD_str, x3a, x3b, x3c, ha, in_sides, hi, hwn]
    cases hcond : (a == "paper" && isSide b) with
    | false =>
      rw [hv, hcond]
      exact bad (.inl hcond)
    | true =>
      cases hn : numV c with
      | none =>
        rw [hv, hcond, hn]
        exact bad (.inr (by rw [← numV_isNum, hn]; rfl))
      | some n =>
        have hN : isNum (tl c) = true := by rw [← numV_isNum, hn]; rfl
        rw [hN] at hwn
        obtain ⟨ha, hi⟩ := Bool.and_eq_true_iff.mp hcond
        have lc : lenD [.str c] = some (.int c.length) := rfl
        have hcs : (numS n).length = c.length := by rw [← numV_some hn]
        rw [hv, hcond, hn]
        show _ = DR.ok (.tup [.str b, .int (manyP n : Nat)]) []
        have pre : (sIf (bOr (bE (eOp neD (oVa (eBi lenD (aCons (oVar 1) aNil))) (oVa (eCst (.int 3))))) (bOr (bE (eOp neD (oVa (eOp ixD (oVar 1) (oVa (eCst (.int 0))))) (oVa (eCst (.str "paper"))))) (bOr (bE (eOp (inD true) (oVa (eOp ixD (oVar 1) (oVa (eCst (.int 1))))) (oVa (eCst (.tup (z_SIDES.map D.str)))))) (bNot (bE (eCall [false] den_writes_number (aCons (oVa (eOp ixD (oVar 1) (oVa (eCst (.int 2))))) aNil))))))) (sRaise1 "BadNote" "line" (eCst (.int 1))) sNil) [.fz (.str l), .fz (.lst ([a, b, c].map D.str))] = .ok .nx [.fz (.str l), .fz (.lst ([a, b, c].map D.str))] := by
          refine run_iff (e1 := [.fz (.str l), .fz (.lst ([a, b, c].map D.str))]) ?_ rfl
          simp [bOr, bE, bNot, eOp, eBi, eCall, argsOf, mIx, wback, oVar, oVa, eCst, aCons, aNil, R.bind, look, looks, len3, neD_int, neD_str, x3a, x3b, x3c, ha, in_sides, hi, hwn]
        refine runD_ok rfl (e := [.fz (.str l), .fz (.lst ([a, b, c].map D.str))]) ?_ rfl
        unfold ev_read_first
        refine (run_seq st).trans ((run_seq pre).trans ?_)
        by_cases h18 : 18 < c.length
        · have hg : gtD (.int c.length) (.int 18) = some (.bl true) := by
            show some (D.bl (decide ((18 : Int) < c.length))) = _
            rw [decide_eq_true (by omega)]
          have em : manyP n = 1000000000000000000 := by unfold manyP; rw [hcs, if_pos h18]
          rw [em]
          refine run_rt (run_ift (e1 := [.fz (.str l), .fz (.lst ([a, b, c].map D.str))]) ?_ (run_ret ?_))
          · simp [bE, eOp, eBi, oVar, oVa, eCst, aCons, aNil, R.bind, look, looks, x3c, lc, hg]
          · simp [eTup, vas, eOp, oVar, oVa, eCst, aCons, aNil, R.bind, look, looks, x3b, sizeLine_eq]
        · have hg : gtD (.int c.length) (.int 18) = some (.bl false) := by
            show some (D.bl (decide ((18 : Int) < c.length))) = _
            rw [decide_eq_false (by omega)]
          have em : manyP n = n := by unfold manyP; rw [hcs, if_neg h18]
          have hi2 := int_numS hn (by omega)
          rw [em]
          refine (run_seq (run_iff (e1 := [.fz (.str l), .fz (.lst ([a, b, c].map D.str))]) ?_ rfl)).trans (run_ret ?_)
          · simp [bE, eOp, eBi, oVar, oVa, eCst, aCons, aNil, R.bind, look, looks, x3c, lc, hg]
          · simp [eTup, vas, eOp, eBi, oVar, oVa, eCst, aCons, aNil, R.bind, look, looks, x3b, x3c, hi2, sizeLine_eq]
  · rw [hd_len h3]
    have hne : (((sp l).length : Int) == 3) = false := by
      rw [beq_eq_false_iff_ne]
      omega
    refine runD_ex rfl (e := [.fz (.str l), .fz (.lst ((sp l).map D.str))]) ?_ rfl
    unfold ev_read_first
    refine (run_seq st).trans (run_ex (run_ift (e1 := [.fz (.str l), .fz (.lst ((sp l).map D.str))]) ?_ rfl))
    simp [bOr, bE, eOp, eBi, oVar, oVa, eCst, aCons, aNil, R.bind, look, looks, l3, neD_int, hne]
end K37m
set_option Elab.async false
set_option linter.all false
set_option maxRecDepth 100000
set_option maxHeartbeats 4000000
/-! NE: the program's reader, line by line. -/
namespace K37m
open PySem PySem.Spec DP
open K37 hiding R
open TL (tl numL)

def bad (w : PySem.Str) : Bool := match numV w with
  | some n => decide (399 < n)
  | none => true
def valN (w : PySem.Str) : Nat := (numV w).getD 0
theorem rnV_bad {w : PySem.Str} (h : bad w = true) : rnV w = .non := by
  unfold rnV bad at *
  cases q : numV w with
  | none => rfl
  | some n =>
    rw [q] at h
    have : ¬ n ≤ 399 := by simpa using h
    simp [this]
theorem rnV_ok {w : PySem.Str} (h : bad w = false) : rnV w = .int (valN w : Nat) := by
  unfold rnV bad valN at *
  cases q : numV w with
  | none => rw [q] at h; cases h
  | some n =>
    rw [q] at h
    have : n ≤ 399 := by simpa using h
    simp [this]
theorem val_le {w : PySem.Str} (h : bad w = false) : valN w ≤ 399 := by
  unfold bad valN at *
  cases q : numV w with
  | none => simp
  | some n =>
    rw [q] at h
    simpa using h
theorem val_num {w : PySem.Str} (h : bad w = false) : w = numS (valN w) := by
  unfold bad valN at *
  cases q : numV w with
  | none => rw [q] at h; cases h
  | some n => exact numV_some q
/-- a line's numbers, if it may stand here -/
def rowV (many a : Nat) (l : PySem.Str) : Option (List Nat) := if (sp l).length = min 20 (many - a) ∧ (sp l).any bad = false then some ((sp l).map valN) else none
def goL (many : Nat) : Nat → List Nat → List PySem.Str → Nat ⊕ List Nat
  | _, acc, [] => .inr acc
  | k, acc, l :: ls => match rowV many acc.length l with
    | some ns => goL many (k + 1) (acc ++ ns) ls
    | none => .inl k
def nsD (ns : List Nat) : List D := ns.map fun n : Nat => D.int (n : Int)
theorem nsD_app (a b : List Nat) : nsD (a ++ b) = nsD a ++ nsD b := List.map_append
theorem nsD_len (a : List Nat) : (nsD a).length = a.length := List.length_map _
def itm : Nat → List PySem.Str → List D
  | _, [] => []
  | k, l :: ls => .tup [.int (k : Nat), .str l] :: itm (k + 1) ls
theorem itm_eq : ∀ (ls : List PySem.Str) (k : Nat), (ls.map D.str).mapIdx (fun i d => D.tup [.int ((k : Int) + ((i : Nat) : Int)), d]) = itm k ls
  | [], _ => rfl
  | l :: ls, k => by
    have e : (fun (i : Nat) (d : D) => D.tup [.int ((k : Int) + ((i + 1 : Nat) : Int)), d]) = fun i d => D.tup [.int (((k + 1 : Nat) : Int) + ((i : Nat) : Int)), d] := by
      funext i d
      rw [show (k : Int) + ((i + 1 : Nat) : Int) = ((k + 1 : Nat) : Int) + ((i : Nat) : Int) by push_cast; omega]
    rw [List.map_cons, List.mapIdx_cons, itm, e, itm_eq ls (k + 1)]
    simp
theorem min_D (a b : Nat) : minD [.int (a : Nat), .int (b : Nat)] = some (.int ((min a b : Nat) : Int)) := by
  show some (D.int (if (b : Int) < a then (b : Int) else a)) = _
  by_cases h : b < a
  · rw [if_pos (by omega), Nat.min_eq_right (by omega)]
  · rw [if_neg (by omega), Nat.min_eq_left (by omega)]
theorem any_bl {α : Type} (f : α → Bool) (l : List α) : anyD [.lst (l.map fun a => D.bl (f a))] = some (.bl (l.any f)) := by
  show (blsD (l.map fun a => D.bl (f a))).map (fun bs => D.bl (bs.any id)) = _
  rw [bls_map]
  simp
theorem isN_rn (w : PySem.Str) : isND (rnV w) .non = some (.bl (bad w)) := by
  cases h : bad w with
  | true => rw [rnV_bad h]; rfl
  | false => rw [rnV_ok h]; rfl
abbrev St0 (t : PySem.Str) (ls : List D) (b : PySem.Str) (many : Nat) (acc : List Nat) (s5 s6 s7 : Sl) : En := [.fz (.str t), .fz (.lst ls), .fz (.str b), .fz (.int (many : Nat)), .ow false (.lst (nsD acc)), s5, s6, s7, .no, .no]
theorem rp_step (t : PySem.Str) (lines : List D) (b l : PySem.Str) (many k : Nat) (acc : List Nat) (s7 : Sl) (h7 : nm s7 = true) (hl : l.length ≤ BIG) (ha : acc.length ≤ many) (hz : acc.length + BIG + 10 ≤ sizeLine) :
    b3_read_paper (St0 t lines b many acc (.fz (.int (k : Nat))) (.fz (.str l)) s7) = match rowV many acc.length l with
      | some ns => .ok .nx (St0 t lines b many (acc ++ ns) (.fz (.int (k : Nat))) (.fz (.str l)) (.fz (.lst ((sp l).map rnV))))
      | none => .ex "BadNote" [("line", .int (k : Nat))] (St0 t lines b many acc (.fz (.int (k : Nat))) (.fz (.str l)) (.fz (.lst ((sp l).map rnV)))) := by
  have hs := sp_D hl
  have hc := sp_cnt l
  have bgl := big_line
  have lc2 : lcL [8] (gN 8) bYes y2_read_paper ((sp l).map D.str) (St0 t lines b many acc (.fz (.int (k : Nat))) (.fz (.str l)) s7) = .ok ((sp l).map rnV) (St0 t lines b many acc (.fz (.int (k : Nat))) (.fz (.str l)) s7) := lc_map fun w hw => by
    have hwl : w.length ≤ l.length := part_len (b := " ") hw
    refine ⟨_, [.fz (.str t), .fz (.lst lines), .fz (.str b), .fz (.int (many : Nat)), .ow false (.lst (nsD acc)), .fz (.int (k : Nat)), .fz (.str l), s7, .fz (.str w), .no], rfl, ?_, rfl⟩
    have := rn_ok w (by omega)
    unfold y2_read_paper
    show eCall _ _ _ [.fz (.str t), .fz (.lst lines), .fz (.str b), .fz (.int (many : Nat)), .ow false (.lst (nsD acc)), .fz (.int (k : Nat)), .fz (.str l), s7, .fz (.str w), .no] = _
    simp [eCall, argsOf, mIx, wback, eVar, oVa, eCst, aCons, aNil, R.bind, this]
  have row : (sSet 7 (nLc (iD (eMt "str" splitD (oVar 6) (aCons (oVa (eCst (.str " "))) aNil))) [8] (gN 8) bYes y2_read_paper)) (St0 t lines b many acc (.fz (.int (k : Nat))) (.fz (.str l)) s7) = .ok .nx (St0 t lines b many acc (.fz (.int (k : Nat))) (.fz (.str l)) (.fz (.lst ((sp l).map rnV)))) := by
    refine run_set (d := .lst ((sp l).map rnV)) (e1 := St0 t lines b many acc (.fz (.int (k : Nat))) (.fz (.str l)) s7) (nlc_ok (ds := (sp l).map D.str) ?_ rfl (by rw [List.length_map]; omega) lc2) (free_of rfl h7)
    simp [iD, itD, eMt, tyD, oVar, oVa, eCst, aCons, aNil, R.bind, look, looks, hs]
  have E2 : ∀ E : En, E = St0 t lines b many acc (.fz (.int (k : Nat))) (.fz (.str l)) (.fz (.lst ((sp l).map rnV))) → (nLc (iD (eVar 7)) [9] (gN 9) bYes y1_read_paper) E = .ok (.lst ((sp l).map fun w => D.bl (bad w))) E := by
    rintro E rfl
    have lc1 : lcL [9] (gN 9) bYes y1_read_paper ((sp l).map rnV) (St0 t lines b many acc (.fz (.int (k : Nat))) (.fz (.str l)) (.fz (.lst ((sp l).map rnV)))) = .ok ((sp l).map fun w => D.bl (bad w)) (St0 t lines b many acc (.fz (.int (k : Nat))) (.fz (.str l)) (.fz (.lst ((sp l).map rnV)))) := lc_map fun w hw => by
      refine ⟨_, [.fz (.str t), .fz (.lst lines), .fz (.str b), .fz (.int (many : Nat)), .ow false (.lst (nsD acc)), .fz (.int (k : Nat)), .fz (.str l), .fz (.lst ((sp l).map rnV)), .no, .fz (rnV w)], rfl, ?_, rfl⟩
      have := isN_rn w
      unfold y1_read_paper
      show eOp _ _ _ [.fz (.str t), .fz (.lst lines), .fz (.str b), .fz (.int (many : Nat)), .ow false (.lst (nsD acc)), .fz (.int (k : Nat)), .fz (.str l), .fz (.lst ((sp l).map rnV)), .no, .fz (rnV w)] = _
      simp [eOp, oVar, oVa, eCst, R.bind, look, this]
    exact nlc_ok (ds := (sp l).map rnV) rfl rfl (by rw [List.length_map]; omega) lc1
  have l7 : lenD [.lst ((sp l).map rnV)] = some (.int ((sp l).length : Nat)) := by
    show some (D.int ((sp l).map rnV).length) = _
    rw [List.length_map]
  have l4 : lenD [.lst (nsD acc)] = some (.int (acc.length : Nat)) := by
    show some (D.int (nsD acc).length) = _
    rw [nsD_len]
  have sub : subD (.int (many : Nat)) (.int (acc.length : Nat)) = some (.int ((many - acc.length : Nat) : Int)) := by
    rw [subD_int]
    congr 2
    omega
  have mn : minD [.int 20, .int ((many - acc.length : Nat) : Int)] = some (.int ((min 20 (many - acc.length) : Nat) : Int)) := min_D 20 _
  have E2' := E2 _ rfl
  have any := any_bl bad (sp l)
  generalize hE : St0 t lines b many acc (.fz (.int (k : Nat))) (.fz (.str l)) (.fz (.lst ((sp l).map rnV))) = E at *
  have e3 : E[3]? = some (.fz (.int (many : Nat))) := by rw [← hE]; rfl
  have e4 : E[4]? = some (.ow false (.lst (nsD acc))) := by rw [← hE]; rfl
  have e5 : E[5]? = some (.fz (.int (k : Nat))) := by rw [← hE]; rfl
  have e7 : E[7]? = some (.fz (.lst ((sp l).map rnV))) := by rw [← hE]; rfl
  generalize hN : nLc (iD (eVar 7)) [9] (gN 9) bYes y1_read_paper = N at E2'
  have cond : (bOr (bE (eOp neD (oVa (eBi lenD (aCons (oVar 7) aNil))) (oVa (eBi minD (aCons (oVa (eCst (.int 20))) (aCons (oVa (eOp subD (oVar 3) (oVa (eBi lenD (aCons (oVar 4) aNil))))) aNil)))))) (bE (eBi anyD (aCons (oVa N) aNil)))) E =
      .ok (!decide ((sp l).length = min 20 (many - acc.length) ∧ (sp l).any bad = false)) E := by
    have hq : neD (.int ((sp l).length : Nat)) (.int ((min 20 (many - acc.length) : Nat) : Int)) = some (.bl (!decide ((sp l).length = min 20 (many - acc.length)))) := by
      rw [neD_int]
      congr 3
      rw [Bool.eq_iff_iff, beq_iff_eq, decide_eq_true_eq]
      omega
    have c1 : (bE (eOp neD (oVa (eBi lenD (aCons (oVar 7) aNil))) (oVa (eBi minD (aCons (oVa (eCst (.int 20))) (aCons (oVa (eOp subD (oVar 3) (oVa (eBi lenD (aCons (oVar 4) aNil))))) aNil)))))) E = .ok (!decide ((sp l).length = min 20 (many - acc.length))) E := by
      simp [bE, eOp, eBi, oVar, oVa, eCst, aCons, aNil, R.bind, look, looks, e3, e4, e7, l7, l4, sub, mn, hq]
    have c2 : (bE (eBi anyD (aCons (oVa N) aNil))) E = .ok ((sp l).any bad) E := by
      simp [bE, eBi, oVa, aCons, aNil, R.bind, look, looks, E2', any]
    unfold bOr
    rw [c1]
    show (if (!decide ((sp l).length = min 20 (many - acc.length))) = true then R.ok true E else (bE (eBi anyD (aCons (oVa N) aNil))) E) = _
    rw [c2]
    by_cases hlen : (sp l).length = min 20 (many - acc.length)
    · cases hb : (sp l).any bad <;> simp [hlen]
    · simp [hlen]
  unfold b3_read_paper rowV
  rw [hN]
  refine (run_seq row).trans ?_
  by_cases h : (sp l).length = min 20 (many - acc.length) ∧ (sp l).any bad = false
  · rw [if_pos h]
    rw [decide_eq_true h] at cond
    refine (run_seq (run_iff (e1 := E) cond rfl)).trans ?_
    have er : (sp l).map rnV = nsD ((sp l).map valN) := by
      unfold nsD
      rw [List.map_map]
      exact List.map_congr_left fun w hw => rnV_ok (by
        have := List.any_eq_false.mp h.2 w hw
        simpa using this)
    show sExt 4 (eVar 7) E = _
    rw [← hE]
    have hsz : (nsD acc).length + ((sp l).map rnV).length ≤ sizeLine := by rw [nsD_len, List.length_map]; omega
    rw [er] at hsz ⊢
    simp only [sExt, eVar, isLst, R.bind, List.getElem?_cons_succ, List.getElem?_cons_zero, if_true, if_pos hsz]
    rw [← nsD_app]
    rfl
  · rw [if_neg h]
    rw [decide_eq_false h] at cond
    refine run_ex (run_ift (e1 := E) cond ?_)
    simp [sRaise1, eVar, R.bind, e5]
/-- the whole loop -/
theorem rp_loop (t : PySem.Str) (lines : List D) (b : PySem.Str) (many : Nat) : ∀ (ls : List PySem.Str) (k : Nat) (acc : List Nat) (s5 s6 s7 : Sl), nm s5 = true → nm s6 = true → nm s7 = true → (∀ l ∈ ls, l.length ≤ BIG) → acc.length ≤ many → acc.length + 20 * ls.length + BIG + 10 ≤ sizeLine →
    ∃ s5' s6' s7' acc', nm s5' = true ∧ nm s6' = true ∧ nm s7' = true ∧ (match goL many k acc ls with
      | .inr out => acc' = out ∧ out.length ≤ many ∧ out.length ≤ acc.length + 20 * ls.length ∧ forL (gT [5, 6]) b3_read_paper (itm k ls) (St0 t lines b many acc s5 s6 s7) = .ok .nx (St0 t lines b many acc' s5' s6' s7')
      | .inl j => forL (gT [5, 6]) b3_read_paper (itm k ls) (St0 t lines b many acc s5 s6 s7) = .ex "BadNote" [("line", .int (j : Nat))] (St0 t lines b many acc' s5' s6' s7'))
  | [], k, acc, s5, s6, s7, h5, h6, h7, _, ha, _ => ⟨s5, s6, s7, acc, h5, h6, h7, rfl, ha, by simp, rfl⟩
  | l :: ls, k, acc, s5, s6, s7, h5, h6, h7, hl, ha, hz => by
    have f5 : free (St0 t lines b many acc s5 s6 s7) 5 = true := free_of rfl h5
    have f6 : free (St0 t lines b many acc (.fz (.int (k : Nat))) s6 s7) 6 = true := free_of rfl h6
    have asg : gT [5, 6] (.tup [.int (k : Nat), .str l]) (St0 t lines b many acc s5 s6 s7) = some (St0 t lines b many acc (.fz (.int (k : Nat))) (.fz (.str l)) s7) := by
      show gNs [5, 6] [.int (k : Nat), .str l] _ = _
      simp only [gNs, gN_ok f5, List.set_cons_succ, List.set_cons_zero]
      rw [gN_ok f6]
      rfl
    simp only [List.length_cons] at hz
    have st := rp_step t lines b l many k acc s7 h7 (hl l List.mem_cons_self) ha (by omega)
    rw [goL, itm]
    cases hr : rowV many acc.length l with
    | none =>
      rw [hr] at st
      refine ⟨.fz (.int (k : Nat)), .fz (.str l), .fz (.lst ((sp l).map rnV)), acc, rfl, rfl, rfl, ?_⟩
      rw [forL]
      simp only [asg, st]
    | some ns =>
      rw [hr] at st
      have hlen : ns.length = min 20 (many - acc.length) := by
        unfold rowV at hr
        split at hr
        · rename_i h
          cases hr
          rw [List.length_map]
          exact h.1
        · cases hr
      obtain ⟨s5', s6', s7', acc', q5, q6, q7, q⟩ := rp_loop t lines b many ls (k + 1) (acc ++ ns) (.fz (.int (k : Nat))) (.fz (.str l)) (.fz (.lst ((sp l).map rnV))) rfl rfl rfl (fun x hx => hl x (List.mem_cons_of_mem _ hx)) (by rw [List.length_append]; omega) (by rw [List.length_append]; omega)
      refine ⟨s5', s6', s7', acc', q5, q6, q7, ?_⟩
      have fl : forL (gT [5, 6]) b3_read_paper (.tup [.int (k : Nat), .str l] :: itm (k + 1) ls) (St0 t lines b many acc s5 s6 s7) = forL (gT [5, 6]) b3_read_paper (itm (k + 1) ls) (St0 t lines b many (acc ++ ns) (.fz (.int (k : Nat))) (.fz (.str l)) (.fz (.lst ((sp l).map rnV)))) := forL_cons asg st
      show (match goL many (k + 1) (acc ++ ns) ls with
        | .inr out => _
        | .inl j => _)
      cases hg : goL many (k + 1) (acc ++ ns) ls with
      | inl j =>
        rw [hg] at q
        exact fl.trans q
      | inr out =>
        rw [hg] at q
        obtain ⟨p1, p2, p3, p4⟩ := q
        rw [List.length_append] at p3
        exact ⟨p1, p2, by simp only [List.length_cons]; omega, fl.trans p4⟩
end K37m
set_option Elab.async false
set_option linter.all false
set_option maxRecDepth 100000
set_option maxHeartbeats 4000000
/-! NF: what a text writes: the program's reader and the law's. -/
namespace K37m
open PySem PySem.Spec DP
open K37 hiding R
open TL (tl numL)

/-! ### parts of lists -/
theorem cut_all {α : Type} (xs : List α) (lo : Nat) (h : lo ≤ xs.length) : cutL xs (some (lo : Int)) none = xs.drop lo := by
  unfold cutL
  rw [HT.sIx_nat, HT.sIx_none, Nat.min_eq_left h]
  exact List.take_of_length_le (by rw [List.length_drop]; omega)
theorem cut_to {α : Type} (xs : List α) (hi : Nat) : cutL xs none (some (hi : Int)) = xs.take hi := by
  unfold cutL
  rw [HT.sIx_nat, HT.sIx_none, List.drop_zero, Nat.sub_zero]
  by_cases h : hi ≤ xs.length
  · rw [Nat.min_eq_left h]
  · rw [Nat.min_eq_right (by omega), List.take_of_length_le (by omega), List.take_of_length_le (by omega)]
theorem cut_mid {α : Type} (xs : List α) (lo hi : Nat) (h : lo ≤ xs.length) (hh : lo ≤ hi) : cutL xs (some (lo : Int)) (some (hi : Int)) = (xs.drop lo).take (hi - lo) := by
  unfold cutL
  rw [HT.sIx_nat, HT.sIx_nat, Nat.min_eq_left h]
  by_cases q : hi ≤ xs.length
  · rw [Nat.min_eq_left q]
  · rw [Nat.min_eq_right (by omega), List.take_of_length_le (by rw [List.length_drop]; omega), List.take_of_length_le (by rw [List.length_drop]; omega)]
/-! ### what a text writes -/
def RDb (ls : List PySem.Str) (b : PySem.Str) (n : Nat) : Nat ⊕ (PySem.Str × List Nat) := match goL n 2 [] ls with
  | .inl j => .inl j
  | .inr out => if out.length < n then .inl (ls.length + 2) else .inr (b, out)
def RDh (l0 : PySem.Str) (ls : List PySem.Str) : Nat ⊕ (PySem.Str × List Nat) := match hdV l0 with
  | none => .inl 1
  | some (b, n) => RDb ls b n
def RD (t : PySem.Str) : Nat ⊕ (PySem.Str × List Nat) := match lnS t with
  | [] => .inl 1
  | l0 :: ls => RDh l0 ls
theorem RD_cons {t l0 : PySem.Str} {ls : List PySem.Str} (h : lnS t = l0 :: ls) : RD t = RDh l0 ls := by unfold RD; rw [h]
theorem RDh_none {l0 : PySem.Str} {ls : List PySem.Str} (h : hdV l0 = none) : RDh l0 ls = .inl 1 := by unfold RDh; rw [h]
theorem RDh_some {l0 b : PySem.Str} {ls : List PySem.Str} {n : Nat} (h : hdV l0 = some (b, n)) : RDh l0 ls = RDb ls b n := by unfold RDh; rw [h]
theorem RDb_inl {ls : List PySem.Str} {b : PySem.Str} {n j : Nat} (h : goL n 2 [] ls = .inl j) : RDb ls b n = .inl j := by unfold RDb; rw [h]
theorem RDb_inr {ls : List PySem.Str} {b : PySem.Str} {n : Nat} {out : List Nat} (h : goL n 2 [] ls = .inr out) : RDb ls b n = if out.length < n then .inl (ls.length + 2) else .inr (b, out) := by unfold RDb; rw [h]
/-- the program's answer -/
def ansP : Nat ⊕ (PySem.Str × List Nat) → DR
  | .inl k => noteX k
  | .inr (b, out) => .ok (.tup [.str b, .tup (nsD out)]) []
theorem many_big {n : Nat} (h : 18 < (numS n).length) : 1000000000000000000 ≤ n := by
  by_cases c : n < 10 ^ 18
  · have := numS_len (n := n) (k := 18) (by decide) c
    omega
  · have : (10 : Nat) ^ 18 = 1000000000000000000 := by decide
    omega
theorem goL_many (n : Nat) : ∀ (ls : List PySem.Str) (k : Nat) (acc : List Nat), acc.length + 20 * ls.length ≤ 100000000 → goL (manyP n) k acc ls = goL n k acc ls
  | [], _, _, _ => rfl
  | l :: ls, k, acc, h => by
    simp only [List.length_cons] at h
    have e : rowV (manyP n) acc.length l = rowV n acc.length l := by
      unfold rowV manyP
      by_cases c : 18 < (numS n).length
      · have := many_big c
        rw [if_pos c, Nat.min_eq_left (by omega), Nat.min_eq_left (by omega)]
      · rw [if_neg c]
    rw [goL, goL, e]
    cases q : rowV n acc.length l with
    | none => rfl
    | some ns =>
      have hl : ns.length ≤ 20 := by
        unfold rowV at q
        split at q
        · rename_i w
          cases q
          rw [List.length_map, w.1]
          omega
        · cases q
      exact goL_many n ls (k + 1) (acc ++ ns) (by rw [List.length_append]; omega)
theorem goL_len (n : Nat) : ∀ (ls : List PySem.Str) (k : Nat) (acc out : List Nat), goL n k acc ls = .inr out → out.length ≤ acc.length + 20 * ls.length
  | [], _, acc, out, h => by
    rw [goL] at h
    cases h
    simp
  | l :: ls, k, acc, out, h => by
    rw [goL] at h
    cases q : rowV n acc.length l with
    | none => rw [q] at h; cases h
    | some ns =>
      rw [q] at h
      have hl : ns.length ≤ 20 := by
        unfold rowV at q
        split at q
        · rename_i w
          cases q
          rw [List.length_map, w.1]
          omega
        · cases q
      have := goL_len n ls (k + 1) (acc ++ ns) out h
      rw [List.length_append] at this
      simp only [List.length_cons]
      omega
theorem many_lt {n a : Nat} (h : a ≤ 100000000) : (a < manyP n) = (a < n) := by
  unfold manyP
  by_cases c : 18 < (numS n).length
  · have := many_big c
    rw [if_pos c]
    exact propext ⟨fun _ => by omega, fun _ => by omega⟩
  · rw [if_neg c]
theorem big_eq : BIG = 200000 := rfl
theorem rpp_ok (t : PySem.Str) (ht : t.length ≤ BIG) : den_read_paper [.str t] = ansP (RD t) := by
  have hs := ln_D ht
  have hcnt := ln_cnt t
  have ne := ln_ne t
  have bgl := big_line
  have hB := big_eq
  have szl := sizeLine_eq
  cases hl : lnS t with
  | nil => exact absurd hl ne
  | cons l0 ls =>
    rw [RD_cons hl]
    rw [hl] at hs hcnt
    simp only [List.length_cons] at hcnt
    have hl0 : l0.length ≤ t.length := part_len (b := "\n") (show l0 ∈ lnS t by rw [hl]; exact List.mem_cons_self)
    have hls : ∀ l ∈ ls, l.length ≤ BIG := fun l h => by
      have : l.length ≤ t.length := part_len (b := "\n") (show l ∈ lnS t by rw [hl]; exact List.mem_cons_of_mem _ h)
      omega
    have rf := rf_ok l0 (by omega)
    have s1 : (sSet 1 (eMt "str" splitD (oVar 0) (aCons (oVa (eCst (.str "\n"))) aNil))) [.fz (.str t), .no, .no, .no, .no, .no, .no, .no, .no, .no] = .ok .nx [.fz (.str t), .fz (.lst ((l0 :: ls).map D.str)), .no, .no, .no, .no, .no, .no, .no, .no] := by
      simp [sSet, free, eMt, tyD, oVar, oVa, eCst, aCons, aNil, R.bind, look, looks, hs]
    have ix0 : ixD (.lst ((l0 :: ls).map D.str)) (.int 0) = some (.str l0) := ixL_ok (k := 0) rfl
    generalize hlines : (l0 :: ls).map D.str = lines at s1 ix0
    have arg : (aCons (oVa (eOp ixD (oVar 1) (oVa (eCst (.int 0))))) aNil) [.fz (.str t), .fz (.lst lines), .no, .no, .no, .no, .no, .no, .no, .no] = .ok [.va (.str l0)] [.fz (.str t), .fz (.lst lines), .no, .no, .no, .no, .no, .no, .no, .no] := by
      simp [eOp, oVar, oVa, eCst, aCons, aNil, R.bind, look, looks, ix0]
    cases hh : hdV l0 with
    | none =>
      rw [hh] at rf
      rw [RDh_none hh]
      refine runD_ex rfl (e := [.fz (.str t), .fz (.lst lines), .no, .no, .no, .no, .no, .no, .no, .no]) ?_ rfl
      unfold ev_read_paper
      refine (run_seq s1).trans (run_ex ?_)
      have rf' : den_read_first [.str l0] = .ex "BadNote" [("line", .int (1 : Nat))] [] := rf
      unfold sSetT eCall
      rw [arg]
      simp [R.bind, argsOf, mIx, wback, rf']
    | some bn =>
      obtain ⟨b, n⟩ := bn
      rw [hh] at rf
      rw [RDh_some hh]
      have rf' : den_read_first [.str l0] = .ok (.tup [.str b, .int (manyP n : Nat)]) [] := rf
      have s2 : (sSetT (gT [2, 3]) (eCall [false] den_read_first (aCons (oVa (eOp ixD (oVar 1) (oVa (eCst (.int 0))))) aNil))) [.fz (.str t), .fz (.lst lines), .no, .no, .no, .no, .no, .no, .no, .no] = .ok .nx [.fz (.str t), .fz (.lst lines), .fz (.str b), .fz (.int (manyP n : Nat)), .no, .no, .no, .no, .no, .no] := by
        unfold sSetT eCall
        rw [arg]
        simp [R.bind, argsOf, mIx, wback, rf', gT, gNs, gN, free]
      have it : (iEnK 2 (aCons (oVa (eSl (oVar 1) (hSo (eCst (.int 1))) hNo)) aNil)) (St0 t lines b (manyP n) [] .no .no .no) = .ok (itm 2 ls) (St0 t lines b (manyP n) [] .no .no .no) := by
        have c1 : cutL lines (some 1) none = ls.map D.str := by
          rw [← hlines]
          exact cut_all ((l0 :: ls).map D.str) 1 (by simp)
        have c2 : slD (.lst lines) (some 1) none = some (.lst (ls.map D.str)) := by
          show some (D.lst (cutL lines (some 1) none)) = _
          rw [c1]
        have c3 : enumKD 2 (ls.map D.str) = itm 2 ls := itm_eq ls 2
        simp [iEnK, eSl, hSo, hNo, oVar, oVa, eCst, aCons, aNil, R.bind, look, c2, asL, c3]
      obtain ⟨s5, s6, s7, acc, _, _, _, q⟩ := rp_loop t lines b (manyP n) ls 2 [] .no .no .no rfl rfl rfl hls (Nat.zero_le _) (by simp; omega)
      rw [goL_many n ls 2 [] (by simp; omega)] at q
      have llen : lenD [.lst lines] = some (.int ((ls.length + 1 : Nat) : Int)) := by
        rw [← hlines]
        show some (D.int ((l0 :: ls).map D.str).length) = _
        rw [List.length_map, List.length_cons]
      cases hg : goL n 2 [] ls with
      | inl j =>
        rw [hg] at q
        rw [RDb_inl hg]
        refine runD_ex rfl (e := St0 t lines b (manyP n) acc s5 s6 s7) ?_ rfl
        unfold ev_read_paper
        refine (run_seq s1).trans ((run_seq s2).trans ((run_seq (e1 := St0 t lines b (manyP n) [] .no .no .no) rfl).trans (run_ex (for_ok it q))))
      | inr out =>
        rw [hg] at q
        obtain ⟨rfl, q1, q2, q3⟩ := q
        have ho := goL_len n ls 2 [] acc hg
        have hlt : ltD (.int (acc.length : Nat)) (.int (manyP n : Nat)) = some (.bl (decide (acc.length < n))) := by
          show some (D.bl (decide ((acc.length : Int) < (manyP n : Nat)))) = _
          congr 2
          rw [decide_eq_decide]
          have := many_lt (n := n) (a := acc.length) (by simp at ho; omega)
          rw [← this]
          omega
        have la : lenD [.lst (nsD acc)] = some (.int (acc.length : Nat)) := by
          show some (D.int (nsD acc).length) = _
          rw [nsD_len]
        have ev : ∀ r, (sSeq (sIf (bE (eOp ltD (oVa (eBi lenD (aCons (oVar 4) aNil))) (oVar 3))) (sRaise1 "BadNote" "line" (eOp addD (oVa (eBi lenD (aCons (oVar 1) aNil))) (oVa (eCst (.int 1))))) sNil)
            (sRet (eTup (aCons (oVa (eVar 2)) (aCons (oVa (eBi tupD (aCons (oVar 4) aNil))) aNil))))) (St0 t lines b (manyP n) acc s5 s6 s7) = r → ev_read_paper [.fz (.str t), .no, .no, .no, .no, .no, .no, .no, .no, .no] = r := fun r h => by
          unfold ev_read_paper
          exact (run_seq s1).trans ((run_seq s2).trans ((run_seq (e1 := St0 t lines b (manyP n) [] .no .no .no) rfl).trans ((run_seq (for_ok it q3)).trans h)))
        rw [RDb_inr hg]
        by_cases hlt2 : acc.length < n
        · rw [if_pos hlt2]
          rw [decide_eq_true hlt2] at hlt
          refine runD_ex rfl (e := St0 t lines b (manyP n) acc s5 s6 s7) (ev _ (run_ex (run_ift (e1 := St0 t lines b (manyP n) acc s5 s6 s7) ?_ ?_))) rfl
          · simp [bE, eOp, eBi, oVar, oVa, aCons, aNil, R.bind, look, looks, la, hlt]
          · have e : ((ls.length + 1 : Nat) : Int) + 1 = ((ls.length + 2 : Nat) : Int) := by omega
            simp only [sRaise1, eOp, eBi, oVar, oVa, eCst, aCons, aNil, R.bind, look, looks, llen, addD_int, List.getElem?_cons_succ, List.getElem?_cons_zero, e]
        · rw [if_neg hlt2]
          rw [decide_eq_false hlt2] at hlt
          refine runD_ok rfl (e := St0 t lines b (manyP n) acc s5 s6 s7) (ev _ ((run_seq (run_iff (e1 := St0 t lines b (manyP n) acc s5 s6 s7) ?_ rfl)).trans (run_ret ?_))) rfl
          · simp [bE, eOp, eBi, oVar, oVa, aCons, aNil, R.bind, look, looks, la, hlt]
          · have h2 : (2 : Nat) ≤ sizeLine := by omega
            simp [eTup, eBi, eVar, oVar, oVa, aCons, aNil, R.bind, look, looks, vas, tupD, h2]
end K37m
set_option Elab.async false
set_option linter.all false
set_option maxRecDepth 100000
set_option maxHeartbeats 4000000
/-! NG: the law's reader. -/
namespace K37m
open PySem PySem.Spec DP
open K37 hiding R
open TL (tl numL)

theorem numI_num (w : PySem.Str) : numI w = (match numV w with
  | some n => ((n : Nat) : Int)
  | none => -1) := rfl
theorem numI_bad (w : PySem.Str) : (decide (numI w < 0) || decide (399 < numI w)) = bad w := by
  unfold numI bad
  cases numV w with
  | none => rfl
  | some n =>
    show (decide (((n : Nat) : Int) < 0) || decide (399 < ((n : Nat) : Int))) = decide (399 < n)
    rw [decide_eq_false (by omega), Bool.false_or, decide_eq_decide]
    omega
theorem numI_ok {w : PySem.Str} (h : bad w = false) : numI w = (valN w : Nat) := by
  unfold numI valN bad at *
  cases q : numV w with
  | none => rw [q] at h; cases h
  | some n => rfl
theorem addD_lst {x y : List D} (h : x.length + y.length ≤ sizeLine) : addD (.lst x) (.lst y) = some (.lst (x ++ y)) := by
  show (if x.length + y.length ≤ sizeLine then some (D.lst (x ++ y)) else none) = _
  rw [if_pos h]
/-- a comprehension with a test -/
theorem lc_filter {α : Type} {vs : List Nat} {st : D → En → Option En} {cond : M Bool} {elt : M D} {E : En} {g f : α → D} {p : α → Bool} : ∀ {as : List α}, (∀ a ∈ as, ∃ e1, st (g a) (wipeE E vs) = some e1 ∧ cond e1 = .ok (p a) e1 ∧ elt e1 = .ok (f a) e1 ∧ restore E e1 vs = E) →
    lcL vs st cond elt (as.map g) E = .ok ((as.filter p).map f) E
  | [], _ => rfl
  | a :: as, h => by
    obtain ⟨e1, h1, h2, h3, h4⟩ := h a List.mem_cons_self
    have ih := lc_filter (as := as) (g := g) (f := f) (p := p) fun b hb => h b (List.mem_cons_of_mem _ hb)
    rw [List.map_cons, lcL]
    cases hp : p a with
    | true =>
      rw [hp] at h2
      simp only [h1, h2, h3, h4, ih, List.filter_cons, hp, if_true, List.map_cons]
    | false =>
      rw [hp] at h2
      simp only [h1, h2, h4, ih, List.filter_cons, hp, Bool.false_eq_true, if_false]
theorem filter_any {α : Type} (p : α → Bool) : ∀ l : List α, decide (0 < (l.filter p).length) = l.any p
  | [] => rfl
  | a :: l => by
    rw [List.filter_cons, List.any_cons, ← filter_any p l]
    cases p a <;> simp
theorem nlc_f {m : M (List D)} {vs : List Nat} {st : D → En → Option En} {cond : M Bool} {elt : M D} {e E : En} {ds ys : List D} (h : m e = .ok ds E) (hn : noOw E vs = true) (hl : ds.length ≤ sizeLine) (h2 : lcL vs st cond elt ds E = .ok ys E) : nLc m vs st cond elt e = .ok (.lst ys) E := by
  unfold nLc
  simp only [h, R.bind, hn, hl, h2, and_self, if_true]
abbrev St1 (t : PySem.Str) (ls hd : List D) (n : Nat) (acc : List Nat) (s5 s6 s7 : Sl) : En := [.fz (.str t), .fz (.lst ls), .fz (.lst hd), .fz (.int (n : Nat)), .fz (.lst (nsD acc)), s5, s6, s7, .no, .no]
def numD (w : PySem.Str) : D := .int (numI w)
theorem rl_step (t l : PySem.Str) (lines hd : List D) (n k : Nat) (acc : List Nat) (s6 s7 : Sl) (h6 : nm s6 = true) (h7 : nm s7 = true) (hix : lines[k]? = some (.str l)) (hl : l.length ≤ BIG) (ha : acc.length ≤ n) (hz : acc.length + BIG + 10 ≤ sizeLine) :
    ∃ s6' s7', nm s6' = true ∧ nm s7' = true ∧ b4_read (St1 t lines hd n acc (.fz (.int (k : Nat))) s6 s7) = match rowV n acc.length l with
      | some ns => .ok .nx (St1 t lines hd n (acc ++ ns) (.fz (.int (k : Nat))) s6' s7')
      | none => .ok (.rt (.lst [.int ((k + 1 : Nat) : Int)])) (St1 t lines hd n acc (.fz (.int (k : Nat))) s6' s7') := by
  have hs := sp_D hl
  have hc := sp_cnt l
  have bgl := big_line
  refine ⟨.fz (.int ((min 20 (n - acc.length) : Nat) : Int)), .fz (.lst ((sp l).map numD)), rfl, rfl, ?_⟩
  have l4 : lenD [.lst (nsD acc)] = some (.int (acc.length : Nat)) := by
    show some (D.int (nsD acc).length) = _
    rw [nsD_len]
  have sub : subD (.int (n : Nat)) (.int (acc.length : Nat)) = some (.int ((n - acc.length : Nat) : Int)) := by
    rw [subD_int]
    congr 2
    omega
  have mn : minD [.int 20, .int ((n - acc.length : Nat) : Int)] = some (.int ((min 20 (n - acc.length) : Nat) : Int)) := min_D 20 _
  generalize hm : min 20 (n - acc.length) = m at mn ⊢
  have s1 : (sSet 6 (eBi minD (aCons (oVa (eCst (.int 20))) (aCons (oVa (eOp subD (oVar 3) (oVa (eBi lenD (aCons (oVar 4) aNil))))) aNil)))) (St1 t lines hd n acc (.fz (.int (k : Nat))) s6 s7) = .ok .nx (St1 t lines hd n acc (.fz (.int (k : Nat))) (.fz (.int (m : Nat))) s7) := by
    refine run_set (d := .int (m : Nat)) (e1 := St1 t lines hd n acc (.fz (.int (k : Nat))) s6 s7) ?_ (free_of rfl h6)
    simp [eOp, eBi, oVar, oVa, eCst, aCons, aNil, R.bind, look, looks, l4, sub, mn]
  have lc3 : lcL [8] (gN 8) bYes y3_read ((sp l).map D.str) (St1 t lines hd n acc (.fz (.int (k : Nat))) (.fz (.int (m : Nat))) s7) = .ok ((sp l).map numD) (St1 t lines hd n acc (.fz (.int (k : Nat))) (.fz (.int (m : Nat))) s7) := lc_map fun w hw => by
    refine ⟨_, [.fz (.str t), .fz (.lst lines), .fz (.lst hd), .fz (.int (n : Nat)), .fz (.lst (nsD acc)), .fz (.int (k : Nat)), .fz (.int (m : Nat)), s7, .fz (.str w), .no], rfl, ?_, rfl⟩
    have := ln_ok w
    unfold y3_read
    show eCall _ _ _ [.fz (.str t), .fz (.lst lines), .fz (.lst hd), .fz (.int (n : Nat)), .fz (.lst (nsD acc)), .fz (.int (k : Nat)), .fz (.int (m : Nat)), s7, .fz (.str w), .no] = _
    simp [eCall, argsOf, mIx, wback, eVar, oVa, aCons, aNil, R.bind, this, numD]
  have ixk : ixD (.lst lines) (.int (k : Nat)) = some (.str l) := ixL_ok hix
  have s2 : (sSet 7 (nLc (iD (eMt "str" splitD (oVa (eOp ixD (oVar 1) (oVar 5))) (aCons (oVa (eCst (.str " "))) aNil))) [8] (gN 8) bYes y3_read)) (St1 t lines hd n acc (.fz (.int (k : Nat))) (.fz (.int (m : Nat))) s7) = .ok .nx (St1 t lines hd n acc (.fz (.int (k : Nat))) (.fz (.int (m : Nat))) (.fz (.lst ((sp l).map numD)))) := by
    refine run_set (d := .lst ((sp l).map numD)) (e1 := St1 t lines hd n acc (.fz (.int (k : Nat))) (.fz (.int (m : Nat))) s7) (nlc_ok (ds := (sp l).map D.str) ?_ rfl (by rw [List.length_map]; omega) lc3) (free_of rfl h7)
    simp [iD, itD, eMt, eOp, tyD, oVar, oVa, eCst, aCons, aNil, R.bind, look, looks, ixk, hs]
  have fl : (nLc (iD (eVar 7)) [9] (gN 9) t2_read y1_read) (St1 t lines hd n acc (.fz (.int (k : Nat))) (.fz (.int (m : Nat))) (.fz (.lst ((sp l).map numD)))) = .ok (.lst (((sp l).filter bad).map numD)) (St1 t lines hd n acc (.fz (.int (k : Nat))) (.fz (.int (m : Nat))) (.fz (.lst ((sp l).map numD)))) := by
    refine nlc_f (ds := (sp l).map numD) rfl rfl (by rw [List.length_map]; omega) (lc_filter fun w hw => ?_)
    refine ⟨[.fz (.str t), .fz (.lst lines), .fz (.lst hd), .fz (.int (n : Nat)), .fz (.lst (nsD acc)), .fz (.int (k : Nat)), .fz (.int (m : Nat)), .fz (.lst ((sp l).map numD)), .no, .fz (numD w)], rfl, ?_, rfl, rfl⟩
    have q1 : ltD (.int (numI w)) (.int 0) = some (.bl (decide (numI w < 0))) := rfl
    have q2 : gtD (.int (numI w)) (.int 399) = some (.bl (decide (399 < numI w))) := rfl
    unfold t2_read
    rw [← numI_bad]
    cases h0 : decide (numI w < 0) with
    | true =>
      rw [h0] at q1
      simp [bOr, bE, eOp, oVar, oVa, eCst, R.bind, look, numD, q1]
    | false =>
      rw [h0] at q1
      simp [bOr, bE, eOp, oVar, oVa, eCst, R.bind, look, numD, q1, q2]
  have l7 : lenD [.lst ((sp l).map numD)] = some (.int ((sp l).length : Nat)) := by
    show some (D.int ((sp l).map numD).length) = _
    rw [List.length_map]
  have lf : lenD [.lst (((sp l).filter bad).map numD)] = some (.int (((sp l).filter bad).length : Nat)) := by
    show some (D.int (((sp l).filter bad).map numD).length) = _
    rw [List.length_map]
  have gf : gtD (.int (((sp l).filter bad).length : Nat)) (.int 0) = some (.bl ((sp l).any bad)) := by
    show some (D.bl (decide ((0 : Int) < (((sp l).filter bad).length : Nat)))) = _
    rw [← filter_any]
    congr 2
    rw [decide_eq_decide]
    omega
  have hq : neD (.int ((sp l).length : Nat)) (.int (m : Nat)) = some (.bl (!decide ((sp l).length = m))) := by
    rw [neD_int]
    congr 3
    rw [Bool.eq_iff_iff, beq_iff_eq, decide_eq_true_eq]
    omega
  unfold b4_read rowV
  rw [hm]
  refine (run_seq s1).trans ((run_seq s2).trans ?_)
  generalize hE : St1 t lines hd n acc (.fz (.int (k : Nat))) (.fz (.int (m : Nat))) (.fz (.lst ((sp l).map numD))) = E at *
  have e4 : E[4]? = some (.fz (.lst (nsD acc))) := by rw [← hE]; rfl
  have e5 : E[5]? = some (.fz (.int (k : Nat))) := by rw [← hE]; rfl
  have e6 : E[6]? = some (.fz (.int (m : Nat))) := by rw [← hE]; rfl
  have e7 : E[7]? = some (.fz (.lst ((sp l).map numD))) := by rw [← hE]; rfl
  generalize nLc (iD (eVar 7)) [9] (gN 9) t2_read y1_read = N at fl ⊢
  have c1 : (bE (eOp neD (oVa (eBi lenD (aCons (oVar 7) aNil))) (oVar 6))) E = .ok (!decide ((sp l).length = m)) E := by
    simp [bE, eOp, eBi, oVar, oVa, aCons, aNil, R.bind, look, looks, e6, e7, l7, hq]
  have c2 : (bE (eOp gtD (oVa (eBi lenD (aCons (oVa N) aNil))) (oVa (eCst (.int 0))))) E = .ok ((sp l).any bad) E := by
    simp [bE, eOp, eBi, oVa, eCst, aCons, aNil, R.bind, look, looks, fl, lf, gf]
  have cond : (bOr (bE (eOp neD (oVa (eBi lenD (aCons (oVar 7) aNil))) (oVar 6))) (bE (eOp gtD (oVa (eBi lenD (aCons (oVa N) aNil))) (oVa (eCst (.int 0)))))) E = .ok (!decide ((sp l).length = m ∧ (sp l).any bad = false)) E := by
    unfold bOr
    rw [c1]
    show (if (!decide ((sp l).length = m)) = true then R.ok true E else (bE (eOp gtD (oVa (eBi lenD (aCons (oVa N) aNil))) (oVa (eCst (.int 0))))) E) = _
    rw [c2]
    by_cases hlen : (sp l).length = m
    · cases hb : (sp l).any bad <;> simp [hlen]
    · simp [hlen]
  by_cases h : (sp l).length = m ∧ (sp l).any bad = false
  · rw [if_pos h]
    rw [decide_eq_true h] at cond
    refine (run_seq (run_iff (e1 := E) cond rfl)).trans ?_
    have er : (sp l).map numD = nsD ((sp l).map valN) := by
      unfold nsD
      rw [List.map_map]
      exact List.map_congr_left fun w hw => by
        have := List.any_eq_false.mp h.2 w hw
        show D.int (numI w) = D.int (valN w : Nat)
        rw [numI_ok (by simpa using this)]
    have ad : addD (.lst (nsD acc)) (.lst ((sp l).map numD)) = some (.lst (nsD (acc ++ (sp l).map valN))) := by
      rw [addD_lst (by rw [nsD_len, List.length_map]; omega), er, nsD_app]
    have fr : free E 4 = true := free_of e4 rfl
    have : sSet 4 (eOp addD (oVar 4) (oVar 7)) E = .ok .nx (E.set 4 (.fz (.lst (nsD (acc ++ (sp l).map valN))))) := by
      refine run_set (e1 := E) ?_ fr
      simp [eOp, oVar, R.bind, look, e4, e7, ad]
    rw [this, ← hE]
    rfl
  · rw [if_neg h]
    rw [decide_eq_false h] at cond
    refine run_rt (run_ift (e1 := E) cond (run_ret ?_))
    have e : (k : Int) + 1 = ((k + 1 : Nat) : Int) := by push_cast; rfl
    have h1 : (1 : Nat) ≤ sizeLine := by rw [sizeLine_eq]; decide
    simp [nLst, eOp, oVar, oVa, eCst, aCons, aNil, R.bind, look, vas, e5, addD_int, h1]
theorem rl_loop (t : PySem.Str) (lines hd : List D) (n : Nat) : ∀ (ls : List PySem.Str) (k : Nat) (acc : List Nat) (s5 s6 s7 : Sl), nm s5 = true → nm s6 = true → nm s7 = true → lines.drop k = ls.map D.str → (∀ l ∈ ls, l.length ≤ BIG) → acc.length ≤ n → acc.length + 20 * ls.length + BIG + 10 ≤ sizeLine →
    ∃ s5' s6' s7' acc', nm s5' = true ∧ nm s6' = true ∧ nm s7' = true ∧ (match goL n (k + 1) acc ls with
      | .inr out => acc' = out ∧ forL (gN 5) b4_read ((List.range' k ls.length).map fun i : Nat => D.int (i : Int)) (St1 t lines hd n acc s5 s6 s7) = .ok .nx (St1 t lines hd n acc' s5' s6' s7')
      | .inl j => forL (gN 5) b4_read ((List.range' k ls.length).map fun i : Nat => D.int (i : Int)) (St1 t lines hd n acc s5 s6 s7) = .ok (.rt (.lst [.int (j : Nat)])) (St1 t lines hd n acc' s5' s6' s7'))
  | [], k, acc, s5, s6, s7, h5, h6, h7, _, _, _, _ => ⟨s5, s6, s7, acc, h5, h6, h7, rfl, rfl⟩
  | l :: ls, k, acc, s5, s6, s7, h5, h6, h7, hd2, hl, ha, hz => by
    have f5 : free (St1 t lines hd n acc s5 s6 s7) 5 = true := free_of rfl h5
    have asg : gN 5 (.int (k : Nat)) (St1 t lines hd n acc s5 s6 s7) = some (St1 t lines hd n acc (.fz (.int (k : Nat))) s6 s7) := gN_ok f5
    simp only [List.length_cons] at hz
    have hix : lines[k]? = some (.str l) := by
      have := congrArg (·[0]?) hd2
      simpa using this
    have hdr : lines.drop (k + 1) = ls.map D.str := by
      have := congrArg List.tail hd2
      simpa [List.tail_drop] using this
    obtain ⟨s6', s7', q6, q7, st⟩ := rl_step t l lines hd n k acc s6 s7 h6 h7 hix (hl l List.mem_cons_self) ha (by omega)
    rw [goL, List.length_cons, List.range'_succ, List.map_cons]
    cases hr : rowV n acc.length l with
    | none =>
      rw [hr] at st
      refine ⟨.fz (.int (k : Nat)), s6', s7', acc, rfl, q6, q7, ?_⟩
      rw [forL]
      simp only [asg, st]
    | some ns =>
      rw [hr] at st
      have hlen : ns.length = min 20 (n - acc.length) := by
        unfold rowV at hr
        split at hr
        · rename_i h
          cases hr
          rw [List.length_map]
          exact h.1
        · cases hr
      obtain ⟨t5, t6, t7, acc', q5, q6', q7', q⟩ := rl_loop t lines hd n ls (k + 1) (acc ++ ns) (.fz (.int (k : Nat))) s6' s7' rfl q6 q7 hdr (fun x hx => hl x (List.mem_cons_of_mem _ hx)) (by rw [List.length_append]; omega) (by rw [List.length_append]; omega)
      refine ⟨t5, t6, t7, acc', q5, q6', q7', ?_⟩
      have fl : forL (gN 5) b4_read (D.int (k : Nat) :: (List.range' (k + 1) ls.length).map fun i : Nat => D.int (i : Int)) (St1 t lines hd n acc s5 s6 s7) = forL (gN 5) b4_read ((List.range' (k + 1) ls.length).map fun i : Nat => D.int (i : Int)) (St1 t lines hd n (acc ++ ns) (.fz (.int (k : Nat))) s6' s7') := forL_cons asg st
      show (match goL n (k + 1 + 1) (acc ++ ns) ls with
        | .inr out => _
        | .inl j => _)
      cases hg : goL n (k + 1 + 1) (acc ++ ns) ls with
      | inl j =>
        rw [hg] at q
        exact fl.trans q
      | inr out =>
        rw [hg] at q
        exact ⟨q.1, fl.trans q.2⟩
end K37m
set_option Elab.async false
set_option linter.all false
set_option maxRecDepth 100000
set_option maxHeartbeats 4000000
/-! NH: the law's reader, whole. -/
namespace K37m
open PySem PySem.Spec DP
open K37 hiding R
open TL (tl numL)

def ansL : Nat ⊕ (PySem.Str × List Nat) → D
  | .inl k => .lst [.int (k : Nat)]
  | .inr (b, out) => .lst [.str b, .tup (nsD out)]
theorem side_lst (b : PySem.Str) : inD true (.str b) (.lst [.str "yes", .str "no", .str "taken", .str "never"]) = some (.bl (!(isSide b))) := by
  have e : ([.str "yes", .str "no", .str "taken", .str "never"] : List D).any (fun z => eqB z (.str b)) = isSide b := by
    show (("yes" == b) || (("no" == b) || (("taken" == b) || (("never" == b) || false)))) = z_SIDES.contains b
    show _ = ((b == "yes") || ((b == "no") || ((b == "taken") || ((b == "never") || false))))
    have c : ∀ x y : PySem.Str, (x == y) = (y == x) := fun x y => by
      rw [Bool.eq_iff_iff, beq_iff_eq, beq_iff_eq]
      exact ⟨Eq.symm, Eq.symm⟩
    rw [c "yes", c "no", c "taken", c "never"]
  show some (D.bl (let r := ([.str "yes", .str "no", .str "taken", .str "never"] : List D).any (fun z => eqB z (.str b)); if true then !r else r)) = _
  rw [e]
  rfl
theorem rng2_ok (m : M (List Op)) (e : En) (i j : Int) (h : m e = .ok [.va (.int i), .va (.int j)] e) (hi : small i = true) (hj : small j = true) : iRg2 m e = .ok (rngs i j) e := by
  unfold iRg2
  rw [h]
  show (if small i = true ∧ small j = true then R.ok (rngs i j) e else .bad) = _
  rw [if_pos ⟨hi, hj⟩]
theorem rngs_from (k m : Nat) : rngs (k : Int) ((k + m : Nat) : Int) = (List.range' k m).map fun i : Nat => D.int (i : Int) := by
  unfold rngs
  rw [show (((k + m : Nat) : Int) - (k : Int)).toNat = m by omega, List.range'_eq_map_range, List.map_map]
  refine List.map_congr_left fun i _ => ?_
  show D.int ((k : Int) + (i : Nat)) = D.int ((k + i : Nat) : Int)
  push_cast
  rfl
theorem lr_ok (t : PySem.Str) (ht : t.length ≤ BIG) : den_read [.str t] = .ok (ansL (RD t)) [] := by
  have hs := ln_D ht
  have hcnt := ln_cnt t
  have ne := ln_ne t
  have bgl := big_line
  have hB := big_eq
  have szl := sizeLine_eq
  have h1l : (1 : Nat) ≤ sizeLine := by omega
  have h4l : (4 : Nat) ≤ sizeLine := by omega
  cases hl : lnS t with
  | nil => exact absurd hl ne
  | cons l0 ls =>
    rw [RD_cons hl]
    rw [hl] at hs hcnt
    simp only [List.length_cons] at hcnt
    have hl0 : l0.length ≤ t.length := part_len (b := "\n") (show l0 ∈ lnS t by rw [hl]; exact List.mem_cons_self)
    have hls : ∀ l ∈ ls, l.length ≤ BIG := fun l h => by
      have : l.length ≤ t.length := part_len (b := "\n") (show l ∈ lnS t by rw [hl]; exact List.mem_cons_of_mem _ h)
      omega
    have hs0 := sp_D (l := l0) (by omega)
    have ix0 : ixD (.lst ((l0 :: ls).map D.str)) (.int 0) = some (.str l0) := ixL_ok (k := 0) rfl
    have ldr : ((l0 :: ls).map D.str).drop 1 = ls.map D.str := rfl
    have llen : lenD [.lst ((l0 :: ls).map D.str)] = some (.int ((1 + ls.length : Nat) : Int)) := by
      show some (D.int ((l0 :: ls).map D.str).length) = _
      rw [List.length_map, List.length_cons, Nat.add_comm]
    have s1 : (sSet 1 (eMt "str" splitD (oVar 0) (aCons (oVa (eCst (.str "\n"))) aNil))) [.fz (.str t), .no, .no, .no, .no, .no, .no, .no, .no, .no] = .ok .nx [.fz (.str t), .fz (.lst ((l0 :: ls).map D.str)), .no, .no, .no, .no, .no, .no, .no, .no] := by
      simp [sSet, free, eMt, tyD, oVar, oVa, eCst, aCons, aNil, R.bind, look, looks, hs]
    generalize (l0 :: ls).map D.str = lines at s1 ix0 ldr llen
    have s2 : (sSet 2 (eMt "str" splitD (oVa (eOp ixD (oVar 1) (oVa (eCst (.int 0))))) (aCons (oVa (eCst (.str " "))) aNil))) [.fz (.str t), .fz (.lst lines), .no, .no, .no, .no, .no, .no, .no, .no] = .ok .nx [.fz (.str t), .fz (.lst lines), .fz (.lst ((sp l0).map D.str)), .no, .no, .no, .no, .no, .no, .no] := by
      simp [sSet, free, eMt, eOp, tyD, oVar, oVa, eCst, aCons, aNil, R.bind, look, looks, ix0, hs0]
    by_cases h3 : (sp l0).length = 3
    · obtain ⟨a, b, c, habc⟩ : ∃ a b c, sp l0 = [a, b, c] := by
        match hq : sp l0, h3 with
        | [a, b, c], _ => exact ⟨a, b, c, rfl⟩
      rw [habc] at s2
      have hn := ln_ok c
      have ltn : ltD (.int (numI c)) (.int 0) = some (.bl (decide (numI c < 0))) := rfl
      have hv : hdV l0 = if (a == "paper" && isSide b) = true then (numV c).map fun n => (b, n) else none := by
        unfold hdV
        rw [habc]
      have s2' : (sSet 2 (eMt "str" splitD (oVa (eOp ixD (oVar 1) (oVa (eCst (.int 0))))) (aCons (oVa (eCst (.str " "))) aNil))) [.fz (.str t), .fz (.lst lines), .no, .no, .no, .no, .no, .no, .no, .no] = .ok .nx [.fz (.str t), .fz (.lst lines), .fz (.lst [.str a, .str b, .str c]), .no, .no, .no, .no, .no, .no, .no] := s2
      have cnd : ∀ q, (!((a == "paper") && isSide b) || decide (numI c < 0)) = q → (bOr (bE (eOp neD (oVa (eBi lenD (aCons (oVar 2) aNil))) (oVa (eCst (.int 3))))) (bOr (bE (eOp neD (oVa (eOp ixD (oVar 2) (oVa (eCst (.int 0))))) (oVa (eCst (.str "paper"))))) (bOr (bE (eOp (inD true) (oVa (eOp ixD (oVar 2) (oVa (eCst (.int 1))))) (oVa (nLst (aCons (oVa (eCst (.str "yes"))) (aCons (oVa (eCst (.str "no"))) (aCons (oVa (eCst (.str "taken"))) (aCons (oVa (eCst (.str "never"))) aNil)))))))) (bE (eOp ltD (oVa (eCall [false] den_number (aCons (oVa (eOp ixD (oVar 2) (oVa (eCst (.int 2))))) aNil))) (oVa (eCst (.int 0)))))))) [.fz (.str t), .fz (.lst lines), .fz (.lst [.str a, .str b, .str c]), .no, .no, .no, .no, .no, .no, .no] = .ok q [.fz (.str t), .fz (.lst lines), .fz (.lst [.str a, .str b, .str c]), .no, .no, .no, .no, .no, .no, .no] := by
        rintro q rfl
        have lq : (nLst (aCons (oVa (eCst (.str "yes"))) (aCons (oVa (eCst (.str "no"))) (aCons (oVa (eCst (.str "taken"))) (aCons (oVa (eCst (.str "never"))) aNil))))) [.fz (.str t), .fz (.lst lines), .fz (.lst [.str a, .str b, .str c]), .no, .no, .no, .no, .no, .no, .no] = .ok (.lst [.str "yes", .str "no", .str "taken", .str "never"]) [.fz (.str t), .fz (.lst lines), .fz (.lst [.str a, .str b, .str c]), .no, .no, .no, .no, .no, .no, .no] := by
          simp [nLst, oVa, eCst, aCons, aNil, R.bind, vas, h4l]
        generalize (nLst (aCons (oVa (eCst (.str "yes"))) (aCons (oVa (eCst (.str "no"))) (aCons (oVa (eCst (.str "taken"))) (aCons (oVa (eCst (.str "never"))) aNil))))) = N at lq ⊢
        cases ha : (a == "paper") with
        | false => simp [bOr, bE, eOp, eBi, oVar, oVa, eCst, aCons, aNil, R.bind, look, looks, len3, neD_int, neD_str, x3a, ha]
        | true =>
          cases hi : isSide b with
          | false => simp [bOr, bE, eOp, eBi, oVar, oVa, eCst, aCons, aNil, R.bind, look, looks, len3, neD_int, neD_str, x3a, x3b, ha, lq, side_lst, hi]
          | true => simp [bOr, bE, eOp, eBi, eCall, argsOf, mIx, wback, oVar, oVa, eCst, aCons, aNil, R.bind, look, looks, len3, neD_int, neD_str, x3a, x3b, x3c, ha, lq, side_lst, hi, hn, ltn]
      cases hh : hdV l0 with
      | none =>
        rw [RDh_none hh]
        have hq : (!((a == "paper") && isSide b) || decide (numI c < 0)) = true := by
          cases hc : (a == "paper" && isSide b) with
          | false => rfl
          | true =>
            rw [hv, hc] at hh
            have : numV c = none := by
              cases z : numV c with
              | none => rfl
              | some n => rw [z] at hh; cases hh
            have e : numI c = -1 := by unfold numI; rw [this]
            rw [e]
            rfl
        refine runD_ok rfl (e := [.fz (.str t), .fz (.lst lines), .fz (.lst [.str a, .str b, .str c]), .no, .no, .no, .no, .no, .no, .no]) ?_ rfl
        unfold ev_read
        refine (run_seq s1).trans ((run_seq s2').trans (run_rt (run_ift (cnd true hq) (run_ret ?_))))
        simp [nLst, oVa, eCst, aCons, aNil, R.bind, vas, h1l, ansL]
      | some bn =>
        obtain ⟨b', n⟩ := bn
        rw [RDh_some hh]
        obtain ⟨hc, hnv, rfl⟩ : (a == "paper" && isSide b) = true ∧ numV c = some n ∧ b = b' := by
          rw [hv] at hh
          by_cases q : (a == "paper" && isSide b) = true
          · rw [if_pos q] at hh
            cases z : numV c with
            | none => rw [z] at hh; cases hh
            | some m => rw [z] at hh; cases hh; exact ⟨q, rfl, rfl⟩
          · rw [if_neg q] at hh
            cases hh
        have en : numI c = (n : Nat) := by unfold numI; rw [hnv]
        have hq : (!((a == "paper") && isSide b) || decide (numI c < 0)) = false := by
          rw [hc, en]
          simp
        rw [en] at hn
        have s3 : (sSet 3 (eCall [false] den_number (aCons (oVa (eOp ixD (oVar 2) (oVa (eCst (.int 2))))) aNil))) [.fz (.str t), .fz (.lst lines), .fz (.lst [.str a, .str b, .str c]), .no, .no, .no, .no, .no, .no, .no] = .ok .nx [.fz (.str t), .fz (.lst lines), .fz (.lst [.str a, .str b, .str c]), .fz (.int (n : Nat)), .no, .no, .no, .no, .no, .no] := by
          simp [sSet, free, eOp, eCall, argsOf, mIx, wback, oVar, oVa, eCst, aCons, aNil, R.bind, look, x3c, hn]
        have s4 : (sSet 4 (nLst aNil)) [.fz (.str t), .fz (.lst lines), .fz (.lst [.str a, .str b, .str c]), .fz (.int (n : Nat)), .no, .no, .no, .no, .no, .no] = .ok .nx (St1 t lines [.str a, .str b, .str c] n [] .no .no .no) := by
          simp [sSet, free, nLst, aNil, R.bind, vas, nsD]
        have it : (iRg2 (aCons (oVa (eCst (.int 1))) (aCons (oVa (eBi lenD (aCons (oVar 1) aNil))) aNil))) (St1 t lines [.str a, .str b, .str c] n [] .no .no .no) = .ok ((List.range' 1 ls.length).map fun i : Nat => D.int (i : Int)) (St1 t lines [.str a, .str b, .str c] n [] .no .no .no) := by
          rw [← rngs_from 1 ls.length]
          refine rng2_ok _ _ _ _ ?_ (by decide) (by unfold small; rw [decide_eq_true_eq]; omega)
          simp [eBi, oVar, oVa, eCst, aCons, aNil, R.bind, look, looks, llen]
        obtain ⟨s5, s6, s7, acc, _, _, _, q⟩ := rl_loop t lines [.str a, .str b, .str c] n ls 1 [] .no .no .no rfl rfl rfl ldr hls (Nat.zero_le _) (by simp; omega)
        have q' := q
        rw [show (1 + 1 : Nat) = 2 from rfl] at q'
        have pre : ∀ {r}, (sSeq (sFor (iRg2 (aCons (oVa (eCst (.int 1))) (aCons (oVa (eBi lenD (aCons (oVar 1) aNil))) aNil))) (gN 5) b4_read)
  (sSeq (sIf (bE (eOp ltD (oVa (eBi lenD (aCons (oVar 4) aNil))) (oVar 3))) (sRet (nLst (aCons (oVa (eOp addD (oVa (eBi lenD (aCons (oVar 1) aNil))) (oVa (eCst (.int 1))))) aNil))) sNil)
  (sRet (nLst (aCons (oVa (eOp ixD (oVar 2) (oVa (eCst (.int 1))))) (aCons (oVa (eBi tupD (aCons (oVar 4) aNil))) aNil)))))) (St1 t lines [.str a, .str b, .str c] n [] .no .no .no) = r → ev_read [.fz (.str t), .no, .no, .no, .no, .no, .no, .no, .no, .no] = r := fun {r} h => by
          unfold ev_read
          exact (run_seq s1).trans ((run_seq s2').trans ((run_seq (run_iff (cnd false hq) rfl)).trans ((run_seq s3).trans ((run_seq s4).trans h))))
        cases hg : goL n 2 [] ls with
        | inl j =>
          rw [hg] at q'
          rw [RDb_inl hg]
          exact runD_ok rfl (e := St1 t lines [.str a, .str b, .str c] n acc s5 s6 s7) (pre (run_rt (for_ok it q'))) rfl
        | inr out =>
          rw [hg] at q'
          obtain ⟨rfl, q3⟩ := q'
          rw [RDb_inr hg]
          have hlt : ltD (.int (acc.length : Nat)) (.int (n : Nat)) = some (.bl (decide (acc.length < n))) := by
            show some (D.bl (decide ((acc.length : Int) < (n : Nat)))) = _
            congr 2
            rw [decide_eq_decide]
            omega
          have la : lenD [.lst (nsD acc)] = some (.int (acc.length : Nat)) := by
            show some (D.int (nsD acc).length) = _
            rw [nsD_len]
          by_cases hlt2 : acc.length < n
          · rw [if_pos hlt2]
            rw [decide_eq_true hlt2] at hlt
            refine runD_ok rfl (e := St1 t lines [.str a, .str b, .str c] n acc s5 s6 s7) (pre ((run_seq (for_ok it q3)).trans (run_rt (run_ift (e1 := St1 t lines [.str a, .str b, .str c] n acc s5 s6 s7) ?_ (run_ret ?_))))) rfl
            · simp [bE, eOp, eBi, oVar, oVa, aCons, aNil, R.bind, look, looks, la, hlt]
            · have e : ((1 + ls.length : Nat) : Int) + 1 = ((ls.length + 2 : Nat) : Int) := by omega
              simp only [nLst, eOp, eBi, oVar, oVa, eCst, aCons, aNil, R.bind, look, looks, llen, addD_int, vas, List.getElem?_cons_succ, List.getElem?_cons_zero, e, List.length_cons, List.length_nil, if_pos h1l, Nat.zero_add, ansL]
          · rw [if_neg hlt2]
            rw [decide_eq_false hlt2] at hlt
            refine runD_ok rfl (e := St1 t lines [.str a, .str b, .str c] n acc s5 s6 s7) (pre ((run_seq (for_ok it q3)).trans ((run_seq (run_iff (e1 := St1 t lines [.str a, .str b, .str c] n acc s5 s6 s7) ?_ rfl)).trans (run_ret ?_)))) rfl
            · simp [bE, eOp, eBi, oVar, oVa, aCons, aNil, R.bind, look, looks, la, hlt]
            · have h2 : (2 : Nat) ≤ sizeLine := by omega
              simp [nLst, eOp, eBi, oVar, oVa, eCst, aCons, aNil, R.bind, look, looks, vas, tupD, x3b, h2, ansL]
    · rw [RDh_none (hd_len h3)]
      have l3 : lenD [.lst ((sp l0).map D.str)] = some (.int (sp l0).length) := by
        show some (D.int ((sp l0).map D.str).length) = _
        rw [List.length_map]
      have hne : (((sp l0).length : Int) == 3) = false := by
        rw [beq_eq_false_iff_ne]
        omega
      refine runD_ok rfl (e := [.fz (.str t), .fz (.lst lines), .fz (.lst ((sp l0).map D.str)), .no, .no, .no, .no, .no, .no, .no]) ?_ rfl
      unfold ev_read
      refine (run_seq s1).trans ((run_seq s2).trans (run_rt (run_ift (e1 := [.fz (.str t), .fz (.lst lines), .fz (.lst ((sp l0).map D.str)), .no, .no, .no, .no, .no, .no, .no]) ?_ (run_ret ?_))))
      · simp [bOr, bE, eOp, eBi, oVar, oVa, eCst, aCons, aNil, R.bind, look, looks, l3, neD_int, hne]
      · simp [nLst, oVa, eCst, aCons, aNil, R.bind, vas, h1l, ansL]
end K37m
set_option Elab.async false
set_option linter.all false
set_option maxRecDepth 100000
set_option maxHeartbeats 4000000
/-! NI: papers as texts, plainly: written, read back. -/
namespace K37m
open PySem PySem.Spec DP
open K37 hiding R
open TL (tl numL joinL)

def lineS (ns : List Nat) : PySem.Str := Txt.join " " (ns.map numS)
def hdS (b : PySem.Str) (n : Nat) : PySem.Str := Txt.join " " ["paper", b, numS n]
def chs (ns : List Nat) : List PySem.Str := (List.range ((ns.length + 19) / 20)).map fun i => lineS ((ns.drop (20 * i)).take 20)
def wr (b : PySem.Str) (ns : List Nat) : PySem.Str := Txt.join "\n" (hdS b ns.length :: chs ns)

theorem split_j {y : PySem.Str} {s : Nat} (ey : tl y = [s]) (hk : y.cps.all (· < 256) = true) {parts : List PySem.Str} (hne : parts ≠ []) (hp : ∀ p ∈ parts, s ∉ tl p) : Txt.split (Txt.join y parts) y = parts := by
  exact TL.split_join ey hk hne hp
theorem sp_j {parts : List PySem.Str} (hne : parts ≠ []) (hp : ∀ p ∈ parts, 32 ∉ tl p) : sp (Txt.join " " parts) = parts := split_j tl_sp (by decide +kernel) hne hp
theorem ln_j {parts : List PySem.Str} (hne : parts ≠ []) (hp : ∀ p ∈ parts, 10 ∉ tl p) : lnS (Txt.join "\n" parts) = parts := split_j tl_nl (by decide +kernel) hne hp
theorem j_sp (l : PySem.Str) : Txt.join " " (sp l) = l := by rw [TL.join_eq]; exact PySem.StrLaws.join_split l " "
theorem j_ln (l : PySem.Str) : Txt.join "\n" (lnS l) = l := by rw [TL.join_eq]; exact PySem.StrLaws.join_split l "\n"
theorem numS_free {n s : Nat} (h : s < 48 ∨ 57 < s) : s ∉ tl (numS n) := by
  rw [tl_numS]
  exact TL.numL_free h
theorem mem_join {S : List Nat} {c : Nat} : ∀ {ps : List (List Nat)}, c ∈ joinL S ps → c ∈ S ∨ ∃ p ∈ ps, c ∈ p
  | [], h => by simp [joinL] at h
  | [p], h => .inr ⟨p, List.mem_cons_self, h⟩
  | p :: q :: r, h => by
    have h' : c ∈ p ++ (S ++ joinL S (q :: r)) := h
    rcases List.mem_append.mp h' with h' | h'
    · exact .inr ⟨p, List.mem_cons_self, h'⟩
    · rcases List.mem_append.mp h' with h' | h'
      · exact .inl h'
      · rcases mem_join h' with z | ⟨p', z, w⟩
        · exact .inl z
        · exact .inr ⟨p', List.mem_cons_of_mem _ z, w⟩
theorem tl_j (y : PySem.Str) (parts : List PySem.Str) : tl (Txt.join y parts) = joinL (tl y) (parts.map tl) := by
  rw [TL.join_eq, TL.tl_join]
theorem line_free (ns : List Nat) : 10 ∉ tl (lineS ns) := fun h => by
  unfold lineS at h
  rw [tl_j, tl_sp] at h
  rcases mem_join h with z | ⟨p, z, w⟩
  · simp at z
  · rw [List.map_map] at z
    obtain ⟨n, _, rfl⟩ := List.mem_map.mp z
    exact numS_free (.inl (by decide)) w
theorem sp_line {ns : List Nat} (h : ns ≠ []) : sp (lineS ns) = ns.map numS := sp_j (by simpa using h) fun p hp => by
  obtain ⟨n, _, rfl⟩ := List.mem_map.mp hp
  exact numS_free (.inl (by decide))
theorem side_mem {b : PySem.Str} (h : isSide b = true) : b = "yes" ∨ b = "no" ∨ b = "taken" ∨ b = "never" := by
  unfold isSide z_SIDES at h
  simpa using h
theorem side_free {b : PySem.Str} (h : isSide b = true) : 10 ∉ tl b ∧ 32 ∉ tl b := by
  rcases side_mem h with rfl | rfl | rfl | rfl <;> decide +kernel
theorem side_len {b : PySem.Str} (h : isSide b = true) : b.length ≤ 5 := by
  rcases side_mem h with rfl | rfl | rfl | rfl <;> decide +kernel
theorem hd_free {b : PySem.Str} (h : isSide b = true) (n : Nat) : 10 ∉ tl (hdS b n) := fun hm => by
  unfold hdS at hm
  rw [tl_j, tl_sp] at hm
  rcases mem_join hm with z | ⟨p, z, w⟩
  · simp at z
  · have z' : p = tl "paper" ∨ p = tl b ∨ p = tl (numS n) := by simpa using z
    rcases z' with rfl | rfl | rfl
    · revert w; decide +kernel
    · exact (side_free h).1 w
    · exact numS_free (.inl (by decide)) w
theorem sp_hd {b : PySem.Str} (h : isSide b = true) (n : Nat) : sp (hdS b n) = [("paper" : PySem.Str), b, numS n] := sp_j (by simp) fun p hp => by
  have z' : p = ("paper" : PySem.Str) ∨ p = b ∨ p = numS n := by simpa using hp
  rcases z' with rfl | rfl | rfl
  · decide +kernel
  · exact (side_free h).2
  · exact numS_free (.inl (by decide))
theorem hdV_hd {b : PySem.Str} (h : isSide b = true) (n : Nat) : hdV (hdS b n) = some (b, n) := by
  unfold hdV
  rw [sp_hd h]
  show (if (("paper" : PySem.Str) == "paper" && isSide b) = true then (numV (numS n)).map fun n => (b, n) else none) = _
  rw [h, numV_num]
  simp
theorem hdV_inv {l b : PySem.Str} {n : Nat} (h : hdV l = some (b, n)) : isSide b = true ∧ l = hdS b n := by
  unfold hdV at h
  split at h
  · rename_i a b' c e
    by_cases q : (a == "paper" && isSide b') = true
    · rw [if_pos q] at h
      cases z : numV c with
      | none => rw [z] at h; cases h
      | some m =>
        rw [z] at h
        cases h
        obtain ⟨q1, q2⟩ := Bool.and_eq_true_iff.mp q
        refine ⟨q2, ?_⟩
        rw [← j_sp l, e]
        unfold hdS
        rw [numV_some z, beq_iff_eq.mp q1]
    · rw [if_neg q] at h
      cases h
  · cases h
/-! ### the numbers' lines -/
theorem bad_num {n : Nat} (h : n ≤ 399) : bad (numS n) = false := by
  unfold bad
  rw [numV_num]
  simpa using h
theorem val_numS (n : Nat) : valN (numS n) = n := by
  unfold valN
  rw [numV_num]
  rfl
theorem map_val : ∀ c : List Nat, (c.map numS).map valN = c
  | [] => rfl
  | x :: c => by rw [List.map_cons, List.map_cons, val_numS, map_val c]
theorem row_line {n a : Nat} {c : List Nat} (hc : c.length = min 20 (n - a)) (hne : c ≠ []) (h : ∀ x ∈ c, x ≤ 399) : rowV n a (lineS c) = some c := by
  unfold rowV
  have hb : (c.map numS).any bad = false := by
    rw [List.any_eq_false]
    intro x hx
    obtain ⟨y, hy, rfl⟩ := List.mem_map.mp hx
    simp [bad_num (h y hy)]
  rw [sp_line hne, List.length_map, if_pos ⟨hc, hb⟩, map_val]
theorem goL_app (n : Nat) : ∀ (ls ls' : List PySem.Str) (k : Nat) (acc : List Nat), goL n k acc (ls ++ ls') = match goL n k acc ls with
    | .inr out => goL n (k + ls.length) out ls'
    | .inl j => .inl j
  | [], ls', k, acc => rfl
  | l :: ls, ls', k, acc => by
    rw [List.cons_append, goL, goL]
    cases rowV n acc.length l with
    | none => rfl
    | some ns =>
      show goL n (k + 1) (acc ++ ns) (ls ++ ls') = _
      rw [goL_app n ls ls' (k + 1) (acc ++ ns), List.length_cons, show k + 1 + ls.length = k + (ls.length + 1) by omega]
theorem goL_pre (n : Nat) : ∀ (ls : List PySem.Str) (k : Nat) (acc out : List Nat), goL n k acc ls = .inr out → ∃ r, out = acc ++ r
  | [], _, acc, out, h => by
    rw [goL] at h
    cases h
    exact ⟨[], by simp⟩
  | l :: ls, k, acc, out, h => by
    rw [goL] at h
    cases q : rowV n acc.length l with
    | none => rw [q] at h; cases h
    | some ns =>
      rw [q] at h
      obtain ⟨r, e⟩ := goL_pre n ls (k + 1) (acc ++ ns) out h
      exact ⟨ns ++ r, by rw [e, List.append_assoc]⟩
theorem goL_chs (ns : List Nat) (hn : ∀ x ∈ ns, x ≤ 399) : ∀ (m q k : Nat), 20 * (q + m) ≤ ns.length + 19 → (0 < m → ns.length ≤ 20 * (q + m)) → (m = 0 → ns.length ≤ 20 * q) → goL ns.length k (ns.take (20 * q)) ((List.range' q m).map fun i => lineS ((ns.drop (20 * i)).take 20)) = .inr ns
  | 0, q, k, _, _, h => by
    show Sum.inr (ns.take (20 * q)) = _
    rw [List.take_of_length_le (h rfl)]
  | m + 1, q, k, h1, h2, _ => by
    have hlt : 20 * q < ns.length := by omega
    have hle := h2 (by omega)
    rw [List.range'_succ, List.map_cons, goL]
    have hl : (ns.take (20 * q)).length = 20 * q := by rw [List.length_take]; omega
    have row : rowV ns.length (ns.take (20 * q)).length (lineS ((ns.drop (20 * q)).take 20)) = some ((ns.drop (20 * q)).take 20) := by
      refine row_line ?_ ?_ fun x hx => hn x (List.mem_of_mem_drop (List.mem_of_mem_take hx))
      · rw [hl, List.length_take, List.length_drop]
      · intro z
        have := congrArg List.length z
        rw [List.length_take, List.length_drop] at this
        simp at this
        omega
    rw [row]
    show goL ns.length (k + 1) (ns.take (20 * q) ++ (ns.drop (20 * q)).take 20) _ = _
    rw [← List.take_add]
    have := goL_chs ns hn m (q + 1) (k + 1) (by omega) (fun _ => by omega) (fun z => by omega)
    rw [show 20 * (q + 1) = 20 * q + 20 by omega] at this
    exact this
theorem goL_written (ns : List Nat) (hn : ∀ x ∈ ns, x ≤ 399) (k : Nat) : goL ns.length k [] (chs ns) = .inr ns := by
  have h := goL_chs ns hn ((ns.length + 19) / 20) 0 k (by omega) (fun _ => by omega) (fun _ => by omega)
  rw [show List.range' 0 ((ns.length + 19) / 20) = List.range ((ns.length + 19) / 20) from (List.range_eq_range').symm] at h
  exact h
theorem row_eq {n a : Nat} {l : PySem.Str} {ns : List Nat} (h : rowV n a l = some ns) : ns.length = min 20 (n - a) ∧ l = lineS ns ∧ ∀ x ∈ ns, x ≤ 399 := by
  unfold rowV at h
  split at h
  · rename_i w
    cases h
    have hb : ∀ x ∈ sp l, bad x = false := fun x hx => by
      have := List.any_eq_false.mp w.2 x hx
      simpa using this
    refine ⟨by rw [List.length_map]; exact w.1, ?_, fun x hx => ?_⟩
    · unfold lineS
      rw [List.map_map]
      conv => lhs; rw [← j_sp l, ← List.map_id (sp l)]
      congr 1
      exact List.map_congr_left fun x hx => val_num (hb x hx)
    · obtain ⟨w', hw, rfl⟩ := List.mem_map.mp hx
      exact val_le (hb w' hw)
  · cases h
theorem goL_le (n : Nat) : ∀ (ls : List PySem.Str) (k : Nat) (acc out : List Nat), goL n k acc ls = .inr out → acc.length ≤ n → (∀ x ∈ acc, x ≤ 399) → out.length ≤ n ∧ ∀ x ∈ out, x ≤ 399
  | [], _, acc, out, h, h1, h2 => by
    rw [goL] at h
    cases h
    exact ⟨h1, h2⟩
  | l :: ls, k, acc, out, h, h1, h2 => by
    rw [goL] at h
    cases q : rowV n acc.length l with
    | none => rw [q] at h; cases h
    | some ns =>
      rw [q] at h
      obtain ⟨e1, _, e3⟩ := row_eq q
      refine goL_le n ls (k + 1) (acc ++ ns) out h (by rw [List.length_append]; omega) fun x hx => ?_
      rcases List.mem_append.mp hx with z | z
      · exact h2 x z
      · exact e3 x z
theorem row_none {n : Nat} {l : PySem.Str} : rowV n n l = none := by
  unfold rowV
  rw [if_neg]
  intro h
  have : (sp l).length = 0 := by
    have := h.1
    rw [this]
    simp
  exact sp_ne l (List.eq_nil_of_length_eq_zero this)
theorem goL_inj (out : List Nat) : ∀ (ls ls' : List PySem.Str) (k k' : Nat) (acc : List Nat), goL out.length k acc ls = .inr out → goL out.length k' acc ls' = .inr out → ls = ls'
  | [], [], _, _, _, _, _ => rfl
  | [], l' :: ls', k, k', acc, h, h' => by
    rw [goL] at h
    cases h
    rw [goL, row_none] at h'
    cases h'
  | l :: ls, [], k, k', acc, h, h' => by
    rw [goL] at h'
    cases h'
    rw [goL, row_none] at h
    cases h
  | l :: ls, l' :: ls', k, k', acc, h, h' => by
    rw [goL] at h h'
    cases q : rowV out.length acc.length l with
    | none => rw [q] at h; cases h
    | some ns =>
      cases q' : rowV out.length acc.length l' with
      | none => rw [q'] at h'; cases h'
      | some ns' =>
        rw [q] at h
        rw [q'] at h'
        obtain ⟨e1, e2, _⟩ := row_eq q
        obtain ⟨e1', e2', _⟩ := row_eq q'
        obtain ⟨r, p⟩ := goL_pre _ _ _ _ _ h
        obtain ⟨r', p'⟩ := goL_pre _ _ _ _ _ h'
        have en : ns = ns' := by
          have pp : acc ++ ns ++ r = acc ++ ns' ++ r' := p.symm.trans p'
          rw [List.append_assoc, List.append_assoc] at pp
          have := List.append_cancel_left pp
          exact (List.append_inj this (by rw [e1, e1'])).1
        subst en
        rw [e2, e2', goL_inj out ls ls' (k + 1) (k' + 1) (acc ++ ns) h h']
/-! ### read back -/
theorem ln_wr {b : PySem.Str} (h : isSide b = true) (ns : List Nat) : lnS (wr b ns) = hdS b ns.length :: chs ns := ln_j (by simp) fun p hp => by
  rcases List.mem_cons.mp hp with rfl | hp
  · exact hd_free h _
  · unfold chs at hp
    obtain ⟨i, _, rfl⟩ := List.mem_map.mp hp
    exact line_free _
theorem RD_wr {b : PySem.Str} (h : isSide b = true) (ns : List Nat) (hn : ∀ x ∈ ns, x ≤ 399) : RD (wr b ns) = .inr (b, ns) := by
  rw [RD_cons (ln_wr h ns), RDh_some (hdV_hd h _), RDb_inr (goL_written ns hn 2), if_neg (Nat.lt_irrefl _)]
theorem RD_inv {t b : PySem.Str} {out : List Nat} (h : RD t = .inr (b, out)) : isSide b = true ∧ t = wr b out ∧ ∀ x ∈ out, x ≤ 399 := by
  cases hl : lnS t with
  | nil => exact absurd hl (ln_ne t)
  | cons l0 ls =>
    rw [RD_cons hl] at h
    cases hh : hdV l0 with
    | none => rw [RDh_none hh] at h; cases h
    | some bn =>
      obtain ⟨b', n⟩ := bn
      rw [RDh_some hh] at h
      cases hg : goL n 2 [] ls with
      | inl j => rw [RDb_inl hg] at h; cases h
      | inr o =>
        rw [RDb_inr hg] at h
        by_cases q : o.length < n
        · rw [if_pos q] at h; cases h
        · rw [if_neg q] at h
          cases h
          obtain ⟨s1, s2⟩ := hdV_inv hh
          obtain ⟨g1, g2⟩ := goL_le n ls 2 [] out hg (Nat.zero_le _) (fun _ z => nomatch z)
          have en : n = out.length := by omega
          subst en
          refine ⟨s1, ?_, g2⟩
          rw [← j_ln t, hl, s2, goL_inj out ls (chs out) 2 2 [] hg (goL_written out g2 2)]
          rfl
theorem joinL_snoc (S : List Nat) : ∀ (p : List Nat) (ps : List (List Nat)), joinL S ((p :: ps) ++ [[]]) = joinL S (p :: ps) ++ S
  | p, [] => by
    show p ++ (S ++ []) = p ++ S
    simp
  | p, q :: r => by
    have ih := joinL_snoc S q r
    show p ++ (S ++ joinL S ((q :: r) ++ [[]])) = (p ++ (S ++ joinL S (q :: r))) ++ S
    rw [ih]
    simp
theorem tl_empty : tl ("" : PySem.Str) = [] := by decide +kernel
theorem RD_nl {b : PySem.Str} (h : isSide b = true) (ns : List Nat) (hn : ∀ x ∈ ns, x ≤ 399) : RD (wr b ns ++ "\n") = .inl (2 + (ns.length + 19) / 20) := by
  have e : wr b ns ++ "\n" = Txt.join "\n" ((hdS b ns.length :: chs ns) ++ [("" : PySem.Str)]) := TL.ext_tl (by
    unfold wr
    rw [TL.tl_append, tl_j, tl_j, List.map_append, List.map_cons, List.map_cons, List.map_nil, tl_empty, joinL_snoc])
  have hl : lnS (wr b ns ++ "\n") = hdS b ns.length :: (chs ns ++ [("" : PySem.Str)]) := by
    rw [e]
    refine ln_j (by simp) fun p hp => ?_
    rcases List.mem_append.mp hp with hp | hp
    · rcases List.mem_cons.mp hp with rfl | hp
      · exact hd_free h _
      · unfold chs at hp
        obtain ⟨i, _, rfl⟩ := List.mem_map.mp hp
        exact line_free _
    · have : p = ("" : PySem.Str) := by simpa using hp
      rw [this, tl_empty]
      simp
  have hc : (chs ns).length = (ns.length + 19) / 20 := by unfold chs; rw [List.length_map, List.length_range]
  rw [RD_cons hl, RDh_some (hdV_hd h _), RDb_inl (j := 2 + (ns.length + 19) / 20)]
  rw [goL_app, goL_written ns hn 2]
  show goL ns.length (2 + (chs ns).length) ns [("" : PySem.Str)] = _
  rw [goL, row_none, hc]
theorem RD_nl0 {b : PySem.Str} (h : isSide b = true) (ns : List Nat) : RD (("\n" : PySem.Str) ++ wr b ns) = .inl 1 := by
  have e : ("\n" : PySem.Str) ++ wr b ns = Txt.join "\n" (("" : PySem.Str) :: hdS b ns.length :: chs ns) := TL.ext_tl (by
    unfold wr
    rw [TL.tl_append, tl_j, tl_j]
    show _ = joinL (tl "\n") (tl ("" : PySem.Str) :: (hdS b ns.length :: chs ns).map tl)
    rw [tl_empty]
    rfl)
  have hl : lnS (("\n" : PySem.Str) ++ wr b ns) = ("" : PySem.Str) :: hdS b ns.length :: chs ns := by
    rw [e]
    refine ln_j (by simp) fun p hp => ?_
    rcases List.mem_cons.mp hp with rfl | hp
    · rw [tl_empty]; simp
    rcases List.mem_cons.mp hp with rfl | hp
    · exact hd_free h _
    · unfold chs at hp
      obtain ⟨i, _, rfl⟩ := List.mem_map.mp hp
      exact line_free _
  have hs : sp "" = [("" : PySem.Str)] := by
    have q : Txt.join " " [("" : PySem.Str)] = "" := TL.ext_tl (by rw [tl_j]; rfl)
    rw [← q]
    exact sp_j (by simp) fun p hp => by
      have : p = ("" : PySem.Str) := by simpa using hp
      rw [this, tl_empty]
      simp
  rw [RD_cons hl, RDh_none (hd_len (by rw [hs]; decide))]
end K37m
set_option Elab.async false
set_option linter.all false
set_option maxRecDepth 100000
set_option maxHeartbeats 4000000
/-! NJ: write_paper by data. -/
namespace K37m
open PySem PySem.Spec DP
open K37 hiding R
open TL (tl numL joinL)

def seqD (tp : Bool) (ds : List D) : D := if tp then .tup ds else .lst ds
theorem seq_it (tp : Bool) (ds : List D) : itD (seqD tp ds) = some ds := by cases tp <;> rfl
theorem seq_len (tp : Bool) (ds : List D) : lenD [seqD tp ds] = some (.int (ds.length : Nat)) := by cases tp <;> rfl
theorem seq_sl (tp : Bool) (ds : List D) (lo hi : Nat) (h : lo ≤ ds.length) (hh : lo ≤ hi) : slD (seqD tp ds) (some (lo : Int)) (some (hi : Int)) = some (seqD tp ((ds.drop lo).take (hi - lo))) := by
  cases tp with
  | true =>
    show some (D.tup (cutL ds (some (lo : Int)) (some (hi : Int)))) = _
    rw [cut_mid ds lo hi h hh]
    rfl
  | false =>
    show some (D.lst (cutL ds (some (lo : Int)) (some (hi : Int)))) = _
    rw [cut_mid ds lo hi h hh]
    rfl
def nw : Sl → Bool
  | .ow _ _ => false
  | _ => true
theorem nw_nm {s : Sl} (h : nw s = true) : nm s = true := by
  cases s with
  | ow m d => cases h
  | _ => rfl
theorem strs_map : ∀ l : List PySem.Str, strsD (l.map D.str) = some l
  | [] => rfl
  | x :: l => by
    show (strsD (l.map D.str)).map (x :: ·) = _
    rw [strs_map l]
    rfl
theorem join_D (y : PySem.Str) (l : List PySem.Str) (h : (l.map (·.length)).sum + l.length * y.length ≤ 16777216) : joinD y (.lst (l.map D.str)) = some (.str (Txt.join y l)) := by
  show ((strsD (l.map D.str)).bind fun ys => if (ys.map (·.length)).sum + ys.length * y.length ≤ 16777216 then some (D.str (Txt.join y ys)) else none) = _
  rw [strs_map]
  exact if_pos h
theorem str_num {n : Nat} (h : n ≤ 1000000) : strD [.int (n : Nat)] = some (.str (numS n)) := by
  show (if -1 ≤ ((n : Nat) : Int) ∧ ((n : Nat) : Int).natAbs.log2 < 1920 then some (D.str (Str.ofString (toString ((n : Nat) : Int)))) else none) = _
  have hh : ((n : Nat) : Int).natAbs.log2 < 1920 := by
    rw [Int.natAbs_natCast]
    by_cases h0 : n = 0
    · subst h0
      decide
    · rw [Nat.log2_lt h0]
      have : (2 : Nat) ^ 20 ≤ 2 ^ 1920 := Nat.pow_le_pow_right (by decide) (by decide)
      have e : (2 : Nat) ^ 20 = 1048576 := by decide
      omega
  exact if_pos ⟨by omega, hh⟩
theorem len1_sp : (" " : PySem.Str).length = 1 := by decide +kernel
theorem len1_nl : ("\n" : PySem.Str).length = 1 := by decide +kernel
theorem line_len {c : List Nat} (h : ∀ x ∈ c, x ≤ 399) (hl : c.length ≤ 20) : ((c.map numS).map (·.length)).sum ≤ 60 ∧ (lineS c).length ≤ 80 := by
  have q := PySem.StrLaws.sumLen_le (B := 3) (c.map numS) fun y hy => by
    obtain ⟨n, hn, rfl⟩ := List.mem_map.mp hy
    exact numS_len (by decide) (by have := h n hn; omega)
  have j := join_len " " (c.map numS)
  rw [List.length_map] at q j
  rw [len1_sp] at j
  refine ⟨by omega, ?_⟩
  unfold lineS
  omega
/-! ### the letters -/
theorem int_int (i : Int) : isD c_int (.int i) = some true := by kernel_rfl
theorem bool_int (i : Int) : isD c_bool (.int i) = some false := by kernel_rfl
abbrev W5 (b : PySem.Str) (L : D) (s2 s3 s4 : Sl) : En := [.fz (.str b), .fz L, s2, s3, s4]
theorem let_ok (b : PySem.Str) (L : D) (s3 s4 : Sl) (n : Nat) (h : n ≤ 399) : b3_write_paper (W5 b L (.fz (.int (n : Nat))) s3 s4) = .ok .nx (W5 b L (.fz (.int (n : Nat))) s3 s4) := by
  have q1 : leD (.int 0) (.int (n : Nat)) = some (.bl true) := by
    show some (D.bl (decide ((0 : Int) ≤ (n : Nat)))) = _
    rw [decide_eq_true (by omega)]
  have q2 : leD (.int (n : Nat)) (.int 399) = some (.bl true) := by
    show some (D.bl (decide (((n : Nat) : Int) ≤ 399))) = _
    rw [decide_eq_true (by omega)]
  unfold b3_write_paper
  refine run_iff (e1 := W5 b L (.fz (.int (n : Nat))) s3 s4) ?_ rfl
  simp [bOr, bNot, bE, eIs, eChain, op2, oVar, oVa, eCst, R.bind, look, int_int, bool_int, q1, q2]
theorem let_loop (b : PySem.Str) (L : D) (s3 s4 : Sl) (rest : List D) : ∀ (ns : List Nat) (s2 : Sl), (∀ x ∈ ns, x ≤ 399) → nw s2 = true → ∃ s2', nw s2' = true ∧ forL (gN 2) b3_write_paper (nsD ns ++ rest) (W5 b L s2 s3 s4) = forL (gN 2) b3_write_paper rest (W5 b L s2' s3 s4)
  | [], s2, _, h => ⟨s2, h, rfl⟩
  | n :: ns, s2, hn, h => by
    obtain ⟨s2', q1, q2⟩ := let_loop b L s3 s4 rest ns (.fz (.int (n : Nat))) (fun x hx => hn x (List.mem_cons_of_mem _ hx)) rfl
    refine ⟨s2', q1, ?_⟩
    rw [← q2]
    exact forL_cons (gN_ok (free_of rfl (nw_nm h))) (let_ok b L s3 s4 n (hn n List.mem_cons_self))
/-! ### the lines -/
theorem line_step (b : PySem.Str) (tp : Bool) (ns : List Nat) (hn : ∀ x ∈ ns, x ≤ 399) (hl : ns.length ≤ 1000000) (s2 : Sl) (h2 : nw s2 = true) (acc : List PySem.Str) (i : Nat) (hi : 20 * i ≤ ns.length) (ha : acc.length < sizeLine) :
    b2_write_paper (W5 b (seqD tp (nsD ns)) s2 (.ow false (.lst (acc.map D.str))) (.fz (.int ((20 * i : Nat) : Int)))) = .ok .nx (W5 b (seqD tp (nsD ns)) s2 (.ow false (.lst ((acc ++ [lineS ((ns.drop (20 * i)).take 20)]).map D.str))) (.fz (.int ((20 * i : Nat) : Int)))) := by
  have szl := sizeLine_eq
  generalize hc : (ns.drop (20 * i)).take 20 = c
  have hcn : ∀ x ∈ c, x ≤ 399 := fun x hx => hn x (List.mem_of_mem_drop (List.mem_of_mem_take (hc ▸ hx)))
  have hcl : c.length ≤ 20 := by rw [← hc, List.length_take]; omega
  have sl : slD (seqD tp (nsD ns)) (some ((20 * i : Nat) : Int)) (some ((20 * i + 20 : Nat) : Int)) = some (seqD tp (nsD c)) := by
    rw [seq_sl tp (nsD ns) (20 * i) (20 * i + 20) (by rw [nsD_len]; exact hi) (by omega), show 20 * i + 20 - 20 * i = 20 by omega, ← hc]
    unfold nsD
    rw [List.map_take, List.map_drop]
  have e20 : ((20 * i : Nat) : Int) + 20 = ((20 * i + 20 : Nat) : Int) := by push_cast; rfl
  generalize hE : W5 b (seqD tp (nsD ns)) s2 (.ow false (.lst (acc.map D.str))) (.fz (.int ((20 * i : Nat) : Int))) = E
  have e1 : E[1]? = some (.fz (seqD tp (nsD ns))) := by rw [← hE]; rfl
  have e3 : E[3]? = some (.ow false (.lst (acc.map D.str))) := by rw [← hE]; rfl
  have e4 : E[4]? = some (.fz (.int ((20 * i : Nat) : Int))) := by rw [← hE]; rfl
  have it : (iD (eSl (oVar 1) (hSo (eVar 4)) (hSo (eOp addD (oVar 4) (oVa (eCst (.int 20))))))) E = .ok (c.map fun n : Nat => D.int (n : Int)) E := by
    have sq := seq_it tp (nsD c)
    simp [iD, eSl, hSo, eOp, oVar, oVa, eVar, eCst, R.bind, look, e1, e4, addD_int]
    rw [show (20 : Int) * (i : Int) + 20 = ((20 * i + 20 : Nat) : Int) by push_cast; rfl, show (20 : Int) * (i : Int) = ((20 * i : Nat) : Int) by push_cast; rfl, sl]
    simp [sq]
    rfl
  have lc : lcL [2] (gN 2) bYes y1_write_paper (c.map fun n : Nat => D.int (n : Int)) E = .ok (c.map fun n : Nat => D.str (numS n)) E := lc_map fun n hn' => by
    have sn := str_num (n := n) (by have := hcn n hn'; omega)
    subst hE
    refine ⟨W5 b (seqD tp (nsD ns)) (.fz (.int (n : Nat))) (.ow false (.lst (acc.map D.str))) (.fz (.int ((20 * i : Nat) : Int))), W5 b (seqD tp (nsD ns)) (.fz (.int (n : Nat))) (.ow false (.lst (acc.map D.str))) (.fz (.int ((20 * i : Nat) : Int))), rfl, ?_, ?_⟩
    · unfold y1_write_paper
      simp [eBi, oVar, aCons, aNil, R.bind, look, looks, sn]
    · rfl
  have no : noOw E [2] = true := by
    rw [← hE]
    cases s2 with
    | ow _ _ => cases h2
    | _ => rfl
  have hN := nlc_ok (m := iD (eSl (oVar 1) (hSo (eVar 4)) (hSo (eOp addD (oVar 4) (oVa (eCst (.int 20))))))) (e := E) it no (by rw [List.length_map]; omega) lc
  have jn : joinD " " (.lst (c.map fun n : Nat => D.str (numS n))) = some (.str (lineS c)) := by
    have := join_D " " (c.map numS) (by
      rw [len1_sp, List.length_map]
      have := (line_len hcn hcl).1
      omega)
    rw [List.map_map] at this
    exact this
  unfold b2_write_paper sApp
  generalize nLc (iD (eSl (oVar 1) (hSo (eVar 4)) (hSo (eOp addD (oVar 4) (oVa (eCst (.int 20))))))) [2] (gN 2) bYes y1_write_paper = N at hN ⊢
  have il : isLst E[3]? = true := by rw [e3]; rfl
  have ej : eJoin " " (oVa N) E = .ok (.str (lineS c)) E := by simp [eJoin, oVa, R.bind, look, hN, jn]
  have hal : (acc.map D.str).length < sizeLine := by rw [List.length_map]; exact ha
  rw [if_pos il, ej]
  show (match E[3]? with
    | some (.ow b (.lst ds)) => if ds.length < sizeLine then R.ok Fl.nx (E.set 3 (.ow b (.lst (ds ++ [D.str (lineS c)])))) else .bad
    | _ => .bad) = _
  rw [e3]
  show (if (acc.map D.str).length < sizeLine then R.ok Fl.nx (E.set 3 (.ow false (.lst ((acc.map D.str) ++ [D.str (lineS c)])))) else .bad) = _
  rw [if_pos hal, ← hE, List.map_append]
  rfl
theorem lines_loop (b : PySem.Str) (tp : Bool) (ns : List Nat) (hn : ∀ x ∈ ns, x ≤ 399) (hl : ns.length ≤ 1000000) (s2 : Sl) (h2 : nw s2 = true) : ∀ (m i : Nat) (acc : List PySem.Str) (s4 : Sl), nm s4 = true → (0 < m → 20 * (i + m - 1) ≤ ns.length) → acc.length + m < sizeLine →
    ∃ s4', forL (gN 4) b2_write_paper ((List.range' i m).map fun j : Nat => D.int ((20 * j : Nat) : Int)) (W5 b (seqD tp (nsD ns)) s2 (.ow false (.lst (acc.map D.str))) s4) =
      .ok .nx (W5 b (seqD tp (nsD ns)) s2 (.ow false (.lst ((acc ++ (List.range' i m).map fun j => lineS ((ns.drop (20 * j)).take 20)).map D.str))) s4')
  | 0, i, acc, s4, _, _, _ => ⟨s4, by
    rw [List.range'_zero, List.map_nil, List.map_nil, List.append_nil]
    rfl⟩
  | m + 1, i, acc, s4, h4, hi, ha => by
    have hi' := hi (by omega)
    obtain ⟨s4', q⟩ := lines_loop b tp ns hn hl s2 h2 m (i + 1) (acc ++ [lineS ((ns.drop (20 * i)).take 20)]) (.fz (.int ((20 * i : Nat) : Int))) rfl (fun _ => by omega) (by rw [List.length_append, List.length_singleton]; omega)
    refine ⟨s4', ?_⟩
    rw [List.range'_succ, List.map_cons, List.map_cons]
    rw [List.append_assoc] at q
    exact (forL_cons (gN_ok (free_of rfl h4)) (line_step b tp ns hn hl s2 h2 acc i (by omega) (by omega))).trans q
/-! ### the whole -/
theorem rg3_ok (m : M (List Op)) (e : En) (i j c : Int) (h : m e = .ok [.va (.int i), .va (.int j), .va (.int c)] e) (hc : c ≠ 0 ∧ c.natAbs < 1073741824 ∧ Builtin.Range.small i j c = true ∧ 0 ≤ Builtin.Range.rangeSize i j c) : iRg3 m e = .ok (rngs3 i c (Builtin.Range.rangeSize i j c).toNat) e := by
  unfold iRg3
  rw [h]
  exact if_pos hc
theorem size20 (n : Nat) : Builtin.Range.rangeSize 0 (n : Nat) 20 = (((n + 19) / 20 : Nat) : Int) := by
  unfold Builtin.Range.rangeSize
  rw [if_pos (by decide)]
  by_cases h : n = 0
  · subst h
    rfl
  · rw [if_pos (by omega)]
    omega
theorem small20 (n : Nat) (h : n ≤ 1000000) : Builtin.Range.small 0 (n : Nat) 20 = true := by
  have key : ∀ i : Int, 0 ≤ i → i ≤ 2000000 → Builtin.Range.rangeFitsLong i = true := fun i h0 h1 => by
    unfold Builtin.Range.rangeFitsLong
    rw [decide_eq_true (show -(2 ^ 63) ≤ i by omega), decide_eq_true (show i < 2 ^ 63 by omega)]
    rfl
  have k1 := key 0 (by decide) (by decide)
  have k2 := key (n : Nat) (by omega) (by omega)
  have k3 := key 20 (by decide) (by decide)
  have k4 := key (((n + 19) / 20 : Nat) : Int) (by omega) (by omega)
  have k5 := key ((n : Nat) + (20 - 1) : Int) (by omega) (by omega)
  unfold Builtin.Range.small
  rw [size20, k1, k2, k3, k4, if_pos (by decide : (20 : Int) > 0), k5, Bool.or_true]
  rfl
def hdP (b : PySem.Str) (n : Nat) : PySem.Str := (((Str.empty ++ "paper ") ++ b) ++ " ") ++ numS n
theorem hdP_eq (b : PySem.Str) (n : Nat) : hdP b n = hdS b n := TL.ext_tl (by
  unfold hdP hdS
  rw [tl_j, TL.tl_append, TL.tl_append, TL.tl_append, TL.tl_append]
  show [] ++ tl "paper " ++ tl b ++ tl " " ++ tl (numS n) = tl "paper" ++ (tl " " ++ (tl b ++ (tl " " ++ tl (numS n))))
  have e : tl ("paper " : PySem.Str) = tl "paper" ++ tl " " := by decide +kernel
  rw [e]
  simp)
theorem rngs20 (m : Nat) : rngs3 0 20 m = (List.range' 0 m).map fun j : Nat => D.int ((20 * j : Nat) : Int) := by
  unfold rngs3
  rw [List.range_eq_range']
  refine List.map_congr_left fun j _ => ?_
  congr 1
  push_cast
  omega
theorem in_side_run (b : PySem.Str) (L : D) (s2 s3 s4 : Sl) : (bE (eOp (inD true) (oVar 0) (oVa (eCst (.tup (z_SIDES.map D.str)))))) (W5 b L s2 s3 s4) = .ok (!(isSide b)) (W5 b L s2 s3 s4) := by
  have := in_sides true b
  generalize (z_SIDES.map D.str) = Z at this ⊢
  simp [bE, eOp, oVar, oVa, eCst, R.bind, look, this]
theorem wp_side {b : PySem.Str} (hb : isSide b = false) (L : D) : den_write_paper [.str b, L] = .ex "BadSide" [("side", .str b)] [] := by
  refine runD_ex rfl (e := W5 b L .no .no .no) ?_ rfl
  unfold ev_write_paper
  refine run_ex (run_ift (e1 := W5 b L .no .no .no) ?_ rfl)
  have := in_side_run b L .no .no .no
  rw [hb] at this
  exact this
theorem seq_iD (b : PySem.Str) (tp : Bool) (ds : List D) (s2 s3 s4 : Sl) : (iD (eVar 1)) (W5 b (seqD tp ds) s2 s3 s4) = .ok ds (W5 b (seqD tp ds) s2 s3 s4) := by
  have := seq_it tp ds
  simp [iD, eVar, R.bind, this]
theorem wp_letter {b : PySem.Str} (hb : isSide b = true) (tp : Bool) (ns : List Nat) (hn : ∀ x ∈ ns, x ≤ 399) (d : D) (rest : List D) (hd : ∀ L s3 s4, b3_write_paper (W5 b L (.fz d) s3 s4) = .ex "BadLetter" [("letter", d)] (W5 b L (.fz d) s3 s4)) :
    den_write_paper [.str b, seqD tp (nsD ns ++ d :: rest)] = .ex "BadLetter" [("letter", d)] [] := by
  obtain ⟨s2', h2, q⟩ := let_loop b (seqD tp (nsD ns ++ d :: rest)) .no .no (d :: rest) ns .no hn rfl
  refine runD_ex rfl (e := W5 b (seqD tp (nsD ns ++ d :: rest)) (.fz d) .no .no) ?_ rfl
  unfold ev_write_paper
  have c := in_side_run b (seqD tp (nsD ns ++ d :: rest)) .no .no .no
  rw [hb] at c
  refine (run_seq (run_iff (e1 := W5 b (seqD tp (nsD ns ++ d :: rest)) .no .no .no) c rfl)).trans (run_ex (for_ok (seq_iD _ _ _ _ _ _) (q.trans ?_)))
  have fr : free (W5 b (seqD tp (nsD ns ++ d :: rest)) s2' .no .no) 2 = true := free_of (i := 2) (s := s2') rfl (nw_nm h2)
  rw [forL]
  simp only [gN_ok fr]
  show (b3_write_paper (W5 b (seqD tp (nsD ns ++ d :: rest)) (.fz d) .no .no)).bind _ = _
  rw [hd]
theorem wp_ok {b : PySem.Str} (hb : isSide b = true) (tp : Bool) (ns : List Nat) (hn : ∀ x ∈ ns, x ≤ 399) (hl : ns.length ≤ 300000) : den_write_paper [.str b, seqD tp (nsD ns)] = .ok (.str (wr b ns)) [] := by
  have szl := sizeLine_eq
  have bl := side_len hb
  obtain ⟨s2', h2, q⟩ := let_loop b (seqD tp (nsD ns)) .no .no [] ns .no hn rfl
  rw [List.append_nil] at q
  have c := in_side_run b (seqD tp (nsD ns)) .no .no .no
  rw [hb] at c
  have s1 := run_seq (n := sSeq (sFor (iD (eVar 1)) (gN 2) b3_write_paper) sNil) (run_iff (e1 := W5 b (seqD tp (nsD ns)) .no .no .no) (m := (sRaise1 "BadSide" "side" (eVar 0))) c (r := .ok .nx (W5 b (seqD tp (nsD ns)) .no .no .no)) rfl)
  have sl := seq_len tp (nsD ns)
  rw [nsD_len] at sl
  have sn := str_num (n := ns.length) (by omega)
  have nl : (numS ns.length).length ≤ 6 := numS_len (by decide) (by omega)
  have p6 : ("paper " : PySem.Str).length = 6 := by decide +kernel
  have el : Str.empty.length = 0 := rfl
  have la : ∀ x y : PySem.Str, (x ++ y).length = x.length + y.length := DP.len_cat
  have js : (eJs ((eCst (.str "paper ")) :: ((eFm (eVar 0)) :: ((eCst (.str " ")) :: ((eFm (eBi lenD (aCons (oVar 1) aNil))) :: [])))) Str.empty) (W5 b (seqD tp (nsD ns)) s2' .no .no) = .ok (.str (hdP b ns.length)) (W5 b (seqD tp (nsD ns)) s2' .no .no) := by
    have sb : strD [.str b] = some (.str b) := rfl
    have z1 : (Str.empty ++ "paper ").length ≤ sizeLine := by rw [la, p6, el]; omega
    have z2 : ((Str.empty ++ "paper ") ++ b).length ≤ sizeLine := by rw [la, la, p6, el]; omega
    have z3 : (((Str.empty ++ "paper ") ++ b) ++ " ").length ≤ sizeLine := by rw [la, la, la, p6, el, len1_sp]; omega
    have z4 : ((((Str.empty ++ "paper ") ++ b) ++ " ") ++ numS ns.length).length ≤ sizeLine := by rw [la, la, la, la, p6, el, len1_sp]; omega
    simp [eJs, eFm, eBi, eCst, eVar, oVar, aCons, aNil, R.bind, look, looks, sb, sl, sn, z1, z2, z3, z4, hdP]
  have s3 : (sNew 3 (nLst (aCons (oVa (eJs ((eCst (.str "paper ")) :: ((eFm (eVar 0)) :: ((eCst (.str " ")) :: ((eFm (eBi lenD (aCons (oVar 1) aNil))) :: [])))) Str.empty)) aNil))) (W5 b (seqD tp (nsD ns)) s2' .no .no) = .ok .nx (W5 b (seqD tp (nsD ns)) s2' (.ow false (.lst ([hdS b ns.length].map D.str))) .no) := by
    have h1l : (1 : Nat) ≤ sizeLine := by omega
    rw [hdP_eq] at js
    generalize (eJs ((eCst (.str "paper ")) :: ((eFm (eVar 0)) :: ((eCst (.str " ")) :: ((eFm (eBi lenD (aCons (oVar 1) aNil))) :: [])))) Str.empty) = J at js ⊢
    simp [sNew, nLst, oVa, aCons, aNil, R.bind, vas, js, h1l, free]
  have it : (iRg3 (aCons (oVa (eCst (.int 0))) (aCons (oVa (eBi lenD (aCons (oVar 1) aNil))) (aCons (oVa (eCst (.int 20))) aNil)))) (W5 b (seqD tp (nsD ns)) s2' (.ow false (.lst ([hdS b ns.length].map D.str))) .no) = .ok ((List.range' 0 ((ns.length + 19) / 20)).map fun j : Nat => D.int ((20 * j : Nat) : Int)) (W5 b (seqD tp (nsD ns)) s2' (.ow false (.lst ([hdS b ns.length].map D.str))) .no) := by
    rw [← rngs20]
    have := rg3_ok (aCons (oVa (eCst (.int 0))) (aCons (oVa (eBi lenD (aCons (oVar 1) aNil))) (aCons (oVa (eCst (.int 20))) aNil))) (W5 b (seqD tp (nsD ns)) s2' (.ow false (.lst ([hdS b ns.length].map D.str))) .no) 0 (ns.length : Nat) 20 (by
      simp [eBi, oVar, oVa, eCst, aCons, aNil, R.bind, look, looks, sl]) ⟨by decide, by decide, small20 _ (by omega), by rw [size20]; omega⟩
    rw [size20] at this
    exact this
  obtain ⟨s4', ll⟩ := lines_loop b tp ns hn (by omega) s2' h2 ((ns.length + 19) / 20) 0 [hdS b ns.length] .no rfl (fun _ => by omega) (by simp; omega)
  have hcs : (List.range' 0 ((ns.length + 19) / 20)).map (fun j => lineS ((ns.drop (20 * j)).take 20)) = chs ns := by
    unfold chs
    rw [List.range_eq_range']
  rw [hcs] at ll
  have jn : joinD "\n" (.lst (([hdS b ns.length] ++ chs ns).map D.str)) = some (.str (wr b ns)) := by
    have hc : (chs ns).length = (ns.length + 19) / 20 := by unfold chs; rw [List.length_map, List.length_range]
    have h1 := PySem.StrLaws.sumLen_le (B := 80) ([hdS b ns.length] ++ chs ns) fun y hy => by
      rcases List.mem_append.mp hy with hy | hy
      · have e : y = hdS b ns.length := by simpa using hy
        rw [e, ← hdP_eq]
        unfold hdP
        rw [la, la, la, la, p6, el, len1_sp]
        omega
      · unfold chs at hy
        obtain ⟨i, _, rfl⟩ := List.mem_map.mp hy
        exact (line_len (fun x hx => hn x (List.mem_of_mem_drop (List.mem_of_mem_take hx))) (by rw [List.length_take]; omega)).2
    have h2 : ([hdS b ns.length] ++ chs ns).length = 1 + (ns.length + 19) / 20 := by rw [List.length_append, hc]; rfl
    refine join_D "\n" ([hdS b ns.length] ++ chs ns) ?_
    rw [h2] at h1 ⊢
    rw [len1_nl]
    omega
  refine runD_ok rfl (e := W5 b (seqD tp (nsD ns)) s2' (.ow false (.lst (([hdS b ns.length] ++ chs ns).map D.str))) s4') ?_ rfl
  unfold ev_write_paper
  refine (run_seq (run_iff (e1 := W5 b (seqD tp (nsD ns)) .no .no .no) c rfl)).trans ?_
  refine (run_seq (for_ok (seq_iD _ _ _ _ _ _) q)).trans ?_
  refine (run_seq s3).trans ((run_seq (for_ok it ll)).trans (run_ret ?_))
  simp only [eJoin, oVar, R.bind, look, List.getElem?_cons_succ, List.getElem?_cons_zero, jn]
end K37m
set_option Elab.async false
set_option linter.all false
set_option maxRecDepth 100000
set_option maxHeartbeats 4000000
/-! NK: the law's own writing. -/
namespace K37m
open PySem PySem.Spec DP
open K37 hiding R
open TL (tl numL joinL)

def sepL (k : Nat) : List Nat := if k % 20 = 0 then [10] else [32]
def sepS (k : Nat) : PySem.Str := if k % 20 = 0 then "\n" else " "
theorem tl_sep (k : Nat) : tl (sepS k) = sepL k := by
  unfold sepS sepL
  by_cases h : k % 20 = 0
  · rw [if_pos h, if_pos h]; exact tl_nl
  · rw [if_neg h, if_neg h]; exact tl_sp
theorem sep_len (k : Nat) : (sepS k).length = 1 := by
  unfold sepS
  by_cases h : k % 20 = 0
  · rw [if_pos h]; exact len1_nl
  · rw [if_neg h]; exact len1_sp
def gl : Nat → List Nat → PySem.Str → PySem.Str
  | _, [], t => t
  | k, n :: r, t => gl (k + 1) r ((t ++ sepS k) ++ numS n)
def Gl : Nat → List Nat → List Nat
  | _, [] => []
  | k, n :: r => sepL k ++ (numL n ++ Gl (k + 1) r)
theorem tl_gl : ∀ (l : List Nat) (k : Nat) (t : PySem.Str), tl (gl k l t) = tl t ++ Gl k l
  | [], _, t => by simp [gl, Gl]
  | n :: r, k, t => by
    rw [gl, tl_gl r (k + 1), TL.tl_append, TL.tl_append, tl_sep, tl_numS, Gl]
    simp
theorem joinL_cons (S p : List Nat) : ∀ ps : List (List Nat), joinL S (p :: ps) = p ++ (ps.map (S ++ ·)).flatten
  | [] => by show p = _; simp
  | q :: r => by
    show p ++ (S ++ joinL S (q :: r)) = _
    rw [joinL_cons S q r]
    simp
theorem Gl_in (rest : List Nat) : ∀ (xs : List Nat) (j : Nat), (∀ i, i < xs.length → (j + i) % 20 ≠ 0) → Gl j (xs ++ rest) = ((xs.map numL).map ([32] ++ ·)).flatten ++ Gl (j + xs.length) rest
  | [], j, _ => by simp
  | x :: xs, j, h => by
    have h0 := h 0 (by simp)
    rw [List.cons_append, Gl, Gl_in rest xs (j + 1) (fun i hi => by
      have := h (i + 1) (by simp only [List.length_cons]; omega)
      rw [show j + 1 + i = j + (i + 1) by omega]
      exact this)]
    unfold sepL
    rw [if_neg (by simpa using h0)]
    simp only [List.map_cons, List.flatten_cons, List.length_cons, List.append_assoc]
    rw [show j + 1 + xs.length = j + (xs.length + 1) by omega]
theorem Gl_chunk (q : Nat) (c rest : List Nat) (hne : c ≠ []) (hl : c.length ≤ 20) : Gl (20 * q) (c ++ rest) = [10] ++ tl (lineS c) ++ Gl (20 * q + c.length) rest := by
  cases c with
  | nil => exact absurd rfl hne
  | cons x xs =>
    simp only [List.length_cons] at hl
    have e : tl (lineS (x :: xs)) = numL x ++ ((xs.map numL).map ([32] ++ ·)).flatten := by
      have z : ((x :: xs).map numS).map tl = (x :: xs).map numL := by
        rw [List.map_map]
        exact List.map_congr_left fun y _ => tl_numS y
      unfold lineS
      rw [tl_j, tl_sp, z, List.map_cons, joinL_cons]
    rw [List.cons_append, Gl, Gl_in rest xs (20 * q + 1) (fun i hi => by omega), e]
    unfold sepL
    rw [if_pos (by omega)]
    simp only [List.append_assoc, List.length_cons]
    rw [show 20 * q + 1 + xs.length = 20 * q + (xs.length + 1) by omega]
theorem Gl_all (ns : List Nat) : ∀ (m q : Nat), 20 * (q + m) ≤ ns.length + 19 → (0 < m → ns.length ≤ 20 * (q + m)) → (m = 0 → ns.length ≤ 20 * q) → Gl (20 * q) (ns.drop (20 * q)) = (((List.range' q m).map fun i => lineS ((ns.drop (20 * i)).take 20)).map fun l => [10] ++ tl l).flatten
  | 0, q, _, _, h => by
    rw [List.drop_eq_nil_of_le (h rfl)]
    rfl
  | m + 1, q, h1, h2, _ => by
    have hlt : 20 * q < ns.length := by omega
    have hle := h2 (by omega)
    have hd : ns.drop (20 * q) = (ns.drop (20 * q)).take 20 ++ ns.drop (20 * (q + 1)) := by
      rw [show 20 * (q + 1) = 20 * q + 20 by omega, ← List.drop_drop]
      exact (List.take_append_drop 20 _).symm
    have hc : ((ns.drop (20 * q)).take 20).length = min 20 (ns.length - 20 * q) := by rw [List.length_take, List.length_drop]
    rw [List.range'_succ, List.map_cons, List.map_cons, List.flatten_cons, ← Gl_all ns m (q + 1) (by omega) (fun _ => by omega) (fun z => by omega)]
    conv => lhs; rw [hd]
    rw [Gl_chunk q _ _ (by
      intro z
      rw [z] at hc
      simp at hc
      omega) (by omega)]
    congr 1
    by_cases hm : m = 0
    · have e : ns.drop (20 * (q + 1)) = [] := List.drop_eq_nil_of_le (by omega)
      rw [e]
      rfl
    · congr 1
      rw [hc]
      omega
def wl (b : PySem.Str) (ns : List Nat) : PySem.Str := gl 0 ns (hdS b ns.length)
theorem wl_wr (b : PySem.Str) (ns : List Nat) : wl b ns = wr b ns := TL.ext_tl (by
  have h := Gl_all ns ((ns.length + 19) / 20) 0 (by omega) (fun _ => by omega) (fun _ => by omega)
  unfold wl wr
  rw [tl_gl, tl_j, tl_nl, List.map_cons, joinL_cons]
  congr 1
  have e : Gl 0 ns = Gl (20 * 0) (ns.drop (20 * 0)) := rfl
  rw [e, h, ← List.range_eq_range', List.map_map]
  unfold chs
  rw [List.map_map, List.map_map]
  rfl)
/-! ### by data -/
abbrev W4 (b : PySem.Str) (ns : List Nat) (t : PySem.Str) (s3 : Sl) : En := [.fz (.str b), .fz (.tup (nsD ns)), .fz (.str t), s3]
theorem tup_ix {ns : List Nat} {k n : Nat} (h : ns[k]? = some n) : ixD (.tup (nsD ns)) (.int (k : Nat)) = some (.int (n : Nat)) := by
  have q : L2.atI (nsD ns) ((k : Nat) : Int) = some (.int (n : Nat)) := L2.atI_nat (by unfold nsD; rw [List.getElem?_map, h]; rfl)
  exact q
theorem sep_run (k : Nat) (E : En) (h : E[3]? = some (.fz (.int (k : Nat)))) : (eOp ixD (oVa (nLst (aCons (oVa (eCst (.str "\n"))) (aCons (oVa (eCst (.str " "))) aNil)))) (oVa (eBi intD (aCons (oVa (eOp gtD (oVa (eOp modD (oVar 3) (oVa (eCst (.int 20))))) (oVa (eCst (.int 0))))) aNil)))) E = .ok (.str (sepS k)) E := by
  have h2l : (2 : Nat) ≤ sizeLine := by rw [sizeLine_eq]; decide
  have md : modD (.int (k : Nat)) (.int 20) = some (.int ((k : Int) % 20)) := modD_ok (by decide)
  unfold sepS
  by_cases hk : k % 20 = 0
  · have g : gtD (.int ((k : Int) % 20)) (.int 0) = some (.bl false) := by
      rw [show (k : Int) % 20 = 0 by omega]
      rfl
    have x : ixD (.lst [.str "\n", .str " "]) (.int 0) = some (.str "\n") := rfl
    rw [if_pos hk]
    simp [eOp, eBi, nLst, oVar, oVa, eCst, aCons, aNil, R.bind, look, looks, vas, h2l, h, md, g, intD, x]
  · have g : gtD (.int ((k : Int) % 20)) (.int 0) = some (.bl true) := by
      show some (D.bl (decide ((0 : Int) < (k : Int) % 20))) = _
      rw [decide_eq_true (by omega)]
    have x : ixD (.lst [.str "\n", .str " "]) (.int 1) = some (.str " ") := rfl
    rw [if_neg hk]
    simp [eOp, eBi, nLst, oVar, oVa, eCst, aCons, aNil, R.bind, look, looks, vas, h2l, h, md, g, intD, x]
theorem wl_loop (b : PySem.Str) (ns : List Nat) (hn : ∀ x ∈ ns, x ≤ 399) : ∀ (r : List Nat) (k : Nat) (t : PySem.Str) (s3 : Sl), nm s3 = true → ns.drop k = r → t.length + 4 * r.length + 10 ≤ sizeLine →
    ∃ s3', forL (gN 3) b1_written ((List.range' k r.length).map fun i : Nat => D.int (i : Int)) (W4 b ns t s3) = .ok .nx (W4 b ns (gl k r t) s3')
  | [], k, t, s3, _, _, _ => ⟨s3, rfl⟩
  | n :: r, k, t, s3, h3, hd, hz => by
    simp only [List.length_cons] at hz
    have hk : ns[k]? = some n := by
      have := congrArg (·[0]?) hd
      simpa using this
    have hdr : ns.drop (k + 1) = r := by
      have := congrArg List.tail hd
      simpa [List.tail_drop] using this
    have hn3 : n ≤ 399 := hn n (List.mem_of_getElem? hk)
    have nl : (numS n).length ≤ 3 := numS_len (by decide) (by omega)
    have sl := sep_len k
    have l1 : (t ++ sepS k).length = t.length + 1 := by rw [DP.len_cat, sl]
    have a1 : addD (.str t) (.str (sepS k)) = some (.str (t ++ sepS k)) := addD_str (by rw [sl]; omega)
    have a2 : addD (.str (t ++ sepS k)) (.str (numS n)) = some (.str ((t ++ sepS k) ++ numS n)) := addD_str (by rw [l1]; omega)
    have sn := str_num (n := n) (by omega)
    have ix := tup_ix hk
    obtain ⟨s3', q⟩ := wl_loop b ns hn r (k + 1) ((t ++ sepS k) ++ numS n) (.fz (.int (k : Nat))) rfl hdr (by rw [DP.len_cat, l1]; omega)
    refine ⟨s3', ?_⟩
    rw [List.length_cons, List.range'_succ, List.map_cons, gl, ← q]
    refine forL_cons (gN_ok (free_of (i := 3) rfl h3)) ?_
    have sr := sep_run k (W4 b ns t (.fz (.int (k : Nat)))) rfl
    unfold b1_written
    show sSet 2 _ (W4 b ns t (.fz (.int (k : Nat)))) = _
    generalize (eOp ixD (oVa (nLst (aCons (oVa (eCst (.str "\n"))) (aCons (oVa (eCst (.str " "))) aNil)))) (oVa (eBi intD (aCons (oVa (eOp gtD (oVa (eOp modD (oVar 3) (oVa (eCst (.int 20))))) (oVa (eCst (.int 0))))) aNil)))) = N at sr ⊢
    simp [sSet, free, eOp, eBi, oVar, oVa, aCons, aNil, R.bind, look, looks, sr, a1, a2, ix, sn]
theorem iLen_okT {E0 : En} {l : List D} {i : Nat} (h1 : E0[i]? = some (.fz (.tup l))) (hsm : small (l.length : Int) = true) : iRg1 (aCons (oVa (eBi lenD (aCons (oVar i) aNil))) aNil) E0 = .ok (rngs 0 l.length) E0 := by
  have q : (aCons (oVa (eBi lenD (aCons (oVar i) aNil))) aNil) E0 = .ok [.va (.int l.length)] E0 := by
    simp [eBi, aCons, aNil, oVar, oVa, looks, look, lenD, R.bind, h1]
  rw [iRg1_eq, q]
  exact rg1_ok hsm
theorem written_ok {b : PySem.Str} (hb : isSide b = true) (ns : List Nat) (hn : ∀ x ∈ ns, x ≤ 399) (hl : ns.length ≤ 300000) : den_written [.str b, .tup (nsD ns)] = .ok (.str (wr b ns)) [] := by
  have szl := sizeLine_eq
  have bl := side_len hb
  have p6 : ("paper " : PySem.Str).length = 6 := by decide +kernel
  have nl : (numS ns.length).length ≤ 6 := numS_len (by decide) (by omega)
  have sn := str_num (n := ns.length) (by omega)
  have ll : lenD [.tup (nsD ns)] = some (.int (ns.length : Nat)) := by
    show some (D.int (nsD ns).length) = _
    rw [nsD_len]
  have a1 : addD (.str "paper ") (.str b) = some (.str ("paper " ++ b)) := addD_str (by omega)
  have l1 : (("paper " : PySem.Str) ++ b).length ≤ 11 := by rw [DP.len_cat, p6]; omega
  have a2 : addD (.str ("paper " ++ b)) (.str " ") = some (.str (("paper " ++ b) ++ " ")) := addD_str (by rw [len1_sp]; omega)
  have l2 : ((("paper " : PySem.Str) ++ b) ++ " ").length ≤ 12 := by rw [DP.len_cat, len1_sp]; omega
  have a3 : addD (.str (("paper " ++ b) ++ " ")) (.str (numS ns.length)) = some (.str ((("paper " ++ b) ++ " ") ++ numS ns.length)) := addD_str (by omega)
  have eh : (("paper " ++ b) ++ " ") ++ numS ns.length = hdS b ns.length := by
    rw [← hdP_eq]
    refine TL.ext_tl ?_
    unfold hdP
    simp only [TL.tl_append]
    rfl
  rw [eh] at a3
  have lh : (hdS b ns.length).length ≤ 18 := by
    rw [← eh, DP.len_cat]
    omega
  obtain ⟨s3', q⟩ := wl_loop b ns hn ns 0 (hdS b ns.length) .no rfl rfl (by omega)
  refine runD_ok rfl (e := W4 b ns (wr b ns) s3') ?_ rfl
  have ew : gl 0 ns (hdS b ns.length) = wr b ns := wl_wr b ns
  rw [ew] at q
  unfold ev_written
  refine (run_seq (e1 := W4 b ns (hdS b ns.length) .no) ?_).trans ?_
  · simp [initE, slotOf, sSet, free, eOp, eBi, oVar, oVa, eCst, aCons, aNil, R.bind, look, looks, a1, a2, a3, ll, sn]
  refine (run_seq (for_ok (e1 := W4 b ns (hdS b ns.length) .no) (ds := (List.range' 0 ns.length).map fun i : Nat => D.int (i : Int)) ?_ q)).trans rfl
  have := iLen_okT (E0 := W4 b ns (hdS b ns.length) .no) (l := nsD ns) (i := 1) rfl (by rw [nsD_len]; unfold small; rw [decide_eq_true_eq]; omega)
  rw [nsD_len, rngs_nat] at this
  exact this
end K37m
set_option Elab.async false
set_option linter.all false
set_option maxRecDepth 100000
set_option maxHeartbeats 4000000
/-! NL: the law's checks: alike, reads, good, refused. -/
namespace K37m
open PySem PySem.Spec DP
open K37 hiding R
open TL (tl numL joinL)

theorem whole_int (i : Int) : den_whole [.int i] = .ok (.bl true) [] := by kernel_rfl
theorem alike_int (n : Nat) (i : Int) : den_alike (n + 1) [.int i, .int i] = .ok (.bl true) [] := by
  have e : eqD (.int i) (.int i) = some (.bl true) := by rw [eqD_int]; simp
  have q1 : isD c_tuple (.int i) = some false := by kernel_rfl
  have q2 : isD c_bool (.int i) = some false := by kernel_rfl
  have q3 : isD c_str (.int i) = some false := by kernel_rfl
  have q4 : isND (.int i) .non = some (.bl false) := rfl
  show runD [false, false] 3 (ev_alike (den_alike n)) [.int i, .int i] = _
  refine runD_ok rfl (e := [.fz (.int i), .fz (.int i), .no]) ?_ rfl
  unfold ev_alike
  simp [initE, slotOf, sSeq, sIf, bE, eIs, eOp, oVar, oVa, eVar, eCst, R.bind, look, q1, q2, q3, q4, sNil, sRet, eAnd, eCall, aCons, aNil, argsOf, mIx, wback, whole_int, e]
theorem alike_str (n : Nat) (b : PySem.Str) : den_alike (n + 1) [.str b, .str b] = .ok (.bl true) [] := by
  have e : eqD (.str b) (.str b) = some (.bl true) := by rw [eqD_str]; simp
  have q1 : isD c_tuple (.str b) = some false := by kernel_rfl
  have q2 : isD c_bool (.str b) = some false := by kernel_rfl
  have q3 : isD c_str (.str b) = some true := by kernel_rfl
  have q4 : isND (.str b) .non = some (.bl false) := rfl
  show runD [false, false] 3 (ev_alike (den_alike n)) [.str b, .str b] = _
  refine runD_ok rfl (e := [.fz (.str b), .fz (.str b), .no]) ?_ rfl
  unfold ev_alike
  simp [initE, slotOf, sSeq, sIf, bE, eIs, eOp, oVar, oVa, eVar, eCst, R.bind, look, q1, q2, q3, q4, sNil, sRet, eAnd, e]
theorem alike_loop (slf : List D → DR) (vs : List D) (h : ∀ d ∈ vs, slf [d, d] = .ok (.bl true) []) : ∀ (m k : Nat) (s2 : Sl), nm s2 = true → k + m ≤ vs.length → ∃ s2', forL (gN 2) (b1_alike slf) ((List.range' k m).map fun i : Nat => D.int (i : Int)) [.fz (.tup vs), .fz (.tup vs), s2] = .ok .nx [.fz (.tup vs), .fz (.tup vs), s2']
  | 0, k, s2, _, _ => ⟨s2, rfl⟩
  | m + 1, k, s2, h2, hk => by
    obtain ⟨s2', q⟩ := alike_loop slf vs h m (k + 1) (.fz (.int (k : Nat))) rfl (by omega)
    refine ⟨s2', ?_⟩
    rw [List.range'_succ, List.map_cons, ← q]
    have hx : vs[k]? = some vs[k] := List.getElem?_eq_getElem (by omega)
    have ix : ixD (.tup vs) (.int (k : Nat)) = some vs[k] := L2.atI_nat hx
    have hc := h vs[k] (List.getElem_mem (by omega))
    refine forL_cons (gN_ok (free_of (i := 2) rfl h2)) ?_
    unfold b1_alike
    show sIf _ _ _ [.fz (.tup vs), .fz (.tup vs), .fz (.int (k : Nat))] = _
    refine run_iff (e1 := [.fz (.tup vs), .fz (.tup vs), .fz (.int (k : Nat))]) ?_ rfl
    simp [bNot, bE, eCall, eOp, oVar, oVa, aCons, aNil, R.bind, look, argsOf, mIx, wback, ix, hc]
theorem alike_tup (n : Nat) (vs : List D) (hl : vs.length ≤ 1000000) (h : ∀ d ∈ vs, den_alike n [d, d] = .ok (.bl true) []) : den_alike (n + 1) [.tup vs, .tup vs] = .ok (.bl true) [] := by
  have q1 : isD c_tuple (.tup vs) = some true := by kernel_rfl
  have ll : lenD [.tup vs] = some (.int (vs.length : Nat)) := rfl
  have ne : neD (.int (vs.length : Nat)) (.int (vs.length : Nat)) = some (.bl false) := by rw [neD_int]; simp
  obtain ⟨s2, q⟩ := alike_loop (den_alike n) vs h vs.length 0 .no rfl (by omega)
  show runD [false, false] 3 (ev_alike (den_alike n)) [.tup vs, .tup vs] = _
  refine runD_ok rfl (e := [.fz (.tup vs), .fz (.tup vs), s2]) ?_ rfl
  have it : iRg1 (aCons (oVa (eBi lenD (aCons (oVar 1) aNil))) aNil) [.fz (.tup vs), .fz (.tup vs), .no] = .ok ((List.range' 0 vs.length).map fun i : Nat => D.int (i : Int)) [.fz (.tup vs), .fz (.tup vs), .no] := by
    rw [← rngs_nat]
    exact iLen_okT (l := vs) (i := 1) rfl (by unfold small; rw [decide_eq_true_eq]; omega)
  unfold ev_alike
  refine run_rt (run_ift (e1 := [.fz (.tup vs), .fz (.tup vs), .no]) ?_ ?_)
  · simp [initE, slotOf, bE, eIs, oVar, R.bind, look, q1]
  refine (run_seq (run_iff (e1 := [.fz (.tup vs), .fz (.tup vs), .no]) ?_ rfl)).trans ?_
  · simp [bOr, bNot, bE, eIs, eOp, eBi, oVar, oVa, aCons, aNil, R.bind, look, looks, q1, ll, ne]
  exact (run_seq (for_ok it q)).trans rfl
theorem alike_ok (b : PySem.Str) (out : List Nat) (hl : out.length ≤ 1000000) : den_alike 4 [.tup [.str b, .tup (nsD out)], .tup [.str b, .tup (nsD out)]] = .ok (.bl true) [] := by
  refine alike_tup 3 _ (by simp) fun d hd => ?_
  have z : d = .str b ∨ d = .tup (nsD out) := by simpa using hd
  rcases z with rfl | rfl
  · exact alike_str 2 b
  · refine alike_tup 2 _ (by rw [nsD_len]; exact hl) fun d hd => ?_
    obtain ⟨n, _, rfl⟩ := List.mem_map.mp hd
    exact alike_int 1 _
theorem reads_ok {t b : PySem.Str} {out : List Nat} (ht : t.length ≤ BIG) (h : RD t = .inr (b, out)) (hl : out.length ≤ 1000000) : den_reads [.str t, .str b, .tup (nsD out)] = .ok (.bl true) [] := by
  have r := rpp_ok t ht
  rw [h] at r
  have r' : den_read_paper [.str t] = .ok (.tup [.str b, .tup (nsD out)]) [] := r
  have al := alike_ok b out hl
  have h2l : (2 : Nat) ≤ sizeLine := by rw [sizeLine_eq]; decide
  refine runD_ok rfl (e := [.fz (.str t), .fz (.str b), .fz (.tup (nsD out)), .fz (.tup [.str b, .tup (nsD out)])]) ?_ rfl
  have hb : b1_reads [.fz (.str t), .fz (.str b), .fz (.tup (nsD out)), .no] = .ok .nx [.fz (.str t), .fz (.str b), .fz (.tup (nsD out)), .fz (.tup [.str b, .tup (nsD out)])] := by
    unfold b1_reads
    simp [sSet, free, eCall, eVar, oVa, aCons, aNil, R.bind, argsOf, mIx, wback, r']
  unfold ev_reads
  refine (run_seq (e1 := [.fz (.str t), .fz (.str b), .fz (.tup (nsD out)), .fz (.tup [.str b, .tup (nsD out)])]) ?_).trans (run_ret ?_)
  · unfold sTry
    show (match b1_reads [.fz (.str t), .fz (.str b), .fz (.tup (nsD out)), .no] with
      | .ok fl e' => R.ok fl e'
      | .ex n fs e' => catchD _ n fs e'
      | .bad => .bad) = _
    rw [hb]
  · generalize den_alike 4 = A at al ⊢
    simp [eCall, eTup, vas, eVar, oVa, aCons, aNil, R.bind, argsOf, mIx, wback, h2l, al]
theorem pls_ns : ∀ ns : List Nat, pls (nsD ns) 63 = true
  | [] => rfl
  | n :: ns => pls_ns ns
theorem good_ok {b : PySem.Str} (hb : isSide b = true) (ns : List Nat) (hn : ∀ x ∈ ns, x ≤ 399) (hl : ns.length ≤ 300000) (ht : (wr b ns).length ≤ BIG) : den_good [.str b, .tup (nsD ns), .str (wr b ns)] = .ok (.bl true) [] := by
  have w1 : den_write_paper [.str b, .lst (nsD ns)] = .ok (.str (wr b ns)) [] := wp_ok hb false ns hn hl
  have w2 : den_write_paper [.str b, .tup (nsD ns)] = .ok (.str (wr b ns)) [] := wp_ok hb true ns hn hl
  have r := reads_ok ht (RD_wr hb ns hn) (by omega)
  have hli : listD [.tup (nsD ns)] = some (.lst (nsD ns)) := rfl
  have hpl : pl (.lst (nsD ns)) 64 = true := pls_ns ns
  have ne1 : neD (.lst (nsD ns)) (.lst (nsD ns)) = some (.bl false) := by
    unfold neD
    rw [if_pos ⟨hpl, hpl⟩]
    unfold eqB
    rw [eqv_self]
    rfl
  generalize wr b ns = t at *
  have q3 : isD c_str (.str t) = some true := by kernel_rfl
  have ne2 : neD (.str t) (.str t) = some (.bl false) := by rw [neD_str]; simp
  have eq2 : eqD (.str t) (.str t) = some (.bl true) := by rw [eqD_str]; simp
  refine runD_ok rfl (e := [.fz (.str b), .fz (.tup (nsD ns)), .fz (.str t), .fz (.lst (nsD ns)), .fz (.str t)]) ?_ rfl
  unfold ev_good
  refine (run_seq (e1 := [.fz (.str b), .fz (.tup (nsD ns)), .fz (.str t), .fz (.lst (nsD ns)), .no]) ?_).trans ?_
  · simp [initE, slotOf, sSet, free, eBi, oVar, aCons, aNil, R.bind, look, looks, hli]
  refine (run_seq (e1 := [.fz (.str b), .fz (.tup (nsD ns)), .fz (.str t), .fz (.lst (nsD ns)), .fz (.str t)]) ?_).trans ?_
  · simp [sSet, free, eCall, eVar, oVa, aCons, aNil, R.bind, argsOf, mIx, wback, w1]
  refine (run_seq (run_iff (e1 := [.fz (.str b), .fz (.tup (nsD ns)), .fz (.str t), .fz (.lst (nsD ns)), .fz (.str t)]) ?_ rfl)).trans (run_ret ?_)
  · simp [bOr, bNot, bE, eIs, eOp, eBi, oVar, oVa, aCons, aNil, R.bind, look, looks, q3, ne1, ne2, hli]
  · simp [eAnd, eOp, eCall, eVar, oVar, oVa, aCons, aNil, R.bind, look, argsOf, mIx, wback, w2, eq2, r]
/-! ### refused -/
theorem refusal_ok {t : PySem.Str} {k : Nat} (ht : t.length ≤ BIG) (h : RD t = .inl k) : den_refusal [.str t] = .ok (.int (k : Nat)) [] := by
  have r := rpp_ok t ht
  rw [h] at r
  have r' : den_read_paper [.str t] = .ex "BadNote" [("line", .int (k : Nat))] [] := r
  have hb : b1_refusal [.fz (.str t), .no] = .ex "BadNote" [("line", .int (k : Nat))] [.fz (.str t), .no] := by
    unfold b1_refusal
    simp [sExp, eCall, eVar, oVa, aCons, aNil, R.bind, argsOf, mIx, wback, r']
  have hc : ∀ (t : PySem.Str) (i : Int), catchN ((lkS hw_BadNote, some 1, h3_refusal) :: ((lkS hw_OnceError, none, h2_refusal) :: [])) "BadNote" [("line", .int i)] [.fz (.str t), .no] = .ok (.rt (.int i)) [.fz (.str t), .no] := by
    intro t i
    kernel_rfl
  refine runD_ok rfl (e := [.fz (.str t), .no]) ?_ rfl
  unfold ev_refusal
  refine run_rt ?_
  unfold sTryN
  show (match b1_refusal [.fz (.str t), .no] with
      | .ok fl e' => R.ok fl e'
      | .ex n fs e' => catchN _ n fs e'
      | .bad => .bad) = _
  rw [hb]
  exact hc t _
theorem side_ok {b : PySem.Str} (hb : isSide b = false) (L : D) : den_side_refused [.str b, L] = .ok (.bl true) [] := by
  have r := wp_side hb L
  have hb1 : b1_side_refused [.fz (.str b), .fz L, .no] = .ex "BadSide" [("side", .str b)] [.fz (.str b), .fz L, .no] := by
    unfold b1_side_refused
    simp [sExp, eCall, eVar, oVa, aCons, aNil, R.bind, argsOf, mIx, wback, r]
  have hc : ∀ (b : PySem.Str) (L : D), catchN ((lkS hw_BadSide, some 2, h3_side_refused) :: ((lkS hw_OnceError, none, h2_side_refused) :: [])) "BadSide" [("side", .str b)] [.fz (.str b), .fz L, .no] = .ok (.rt (.bl (b == b))) [.fz (.str b), .fz L, .no] := by
    intro b L
    kernel_rfl
  refine runD_ok rfl (e := [.fz (.str b), .fz L, .no]) ?_ rfl
  unfold ev_side_refused
  refine run_rt ?_
  unfold sTryN
  show (match b1_side_refused [.fz (.str b), .fz L, .no] with
      | .ok fl e' => R.ok fl e'
      | .ex n fs e' => catchN _ n fs e'
      | .bad => .bad) = _
  rw [hb1]
  refine (hc b L).trans ?_
  rw [beq_self_eq_true]
def badLet (d : D) : Prop := (∀ (b : PySem.Str) (L : D) (s3 s4 : Sl), b3_write_paper (W5 b L (.fz d) s3 s4) = .ex "BadLetter" [("letter", d)] (W5 b L (.fz d) s3 s4)) ∧
  ∀ (b : PySem.Str) (L : D), catchN ((lkS hw_BadLetter, some 3, h3_letter_refused) :: ((lkS hw_OnceError, none, h2_letter_refused) :: [])) "BadLetter" [("letter", d)] [.fz (.str b), .fz L, .fz d, .no] = .ok (.rt (.bl true)) [.fz (.str b), .fz L, .fz d, .no]
theorem letter_ok {b : PySem.Str} (hb : isSide b = true) (tp : Bool) (ns : List Nat) (hn : ∀ x ∈ ns, x ≤ 399) (d : D) (rest : List D) (hd : badLet d) : den_letter_refused [.str b, seqD tp (nsD ns ++ d :: rest), d] = .ok (.bl true) [] := by
  have r := wp_letter hb tp ns hn d rest (hd.1 b)
  generalize seqD tp (nsD ns ++ d :: rest) = L at r ⊢
  have hb1 : b1_letter_refused [.fz (.str b), .fz L, .fz d, .no] = .ex "BadLetter" [("letter", d)] [.fz (.str b), .fz L, .fz d, .no] := by
    unfold b1_letter_refused
    simp [sExp, eCall, eVar, oVa, aCons, aNil, R.bind, argsOf, mIx, wback, r]
  refine runD_ok rfl (e := [.fz (.str b), .fz L, .fz d, .no]) ?_ rfl
  unfold ev_letter_refused
  refine run_rt ?_
  unfold sTryN
  show (match b1_letter_refused [.fz (.str b), .fz L, .fz d, .no] with
      | .ok fl e' => R.ok fl e'
      | .ex n fs e' => catchN _ n fs e'
      | .bad => .bad) = _
  rw [hb1]
  exact hd.2 b L
def odds : List D := [.int (-1), .int 400, .int 1000000000000000000000000000000, .int (-1000000000000000000000000000000), .int 401, .int (-399), .non, .bl true, .bl false, .str "7", .lst [.int 1], .tup [.int 0], .str "", .str "yes"]
theorem odd0 : badLet (.int (-1)) := ⟨by intros; kernel_rfl, by intros; kernel_rfl⟩
theorem odd1 : badLet (.int 400) := ⟨by intros; kernel_rfl, by intros; kernel_rfl⟩
theorem odd2 : badLet (.int 1000000000000000000000000000000) := ⟨by intros; kernel_rfl, by intros; kernel_rfl⟩
theorem odd3 : badLet (.int (-1000000000000000000000000000000)) := ⟨by intros; kernel_rfl, by intros; kernel_rfl⟩
theorem odd4 : badLet (.int 401) := ⟨by intros; kernel_rfl, by intros; kernel_rfl⟩
theorem odd5 : badLet (.int (-399)) := ⟨by intros; kernel_rfl, by intros; kernel_rfl⟩
theorem odd6 : badLet .non := ⟨by intros; kernel_rfl, by intros; kernel_rfl⟩
theorem odd7 : badLet (.bl true) := ⟨by intros; kernel_rfl, by intros; kernel_rfl⟩
theorem odd8 : badLet (.bl false) := ⟨by intros; kernel_rfl, by intros; kernel_rfl⟩
theorem odd9 : badLet (.str "7") := ⟨by intros; kernel_rfl, by intros; kernel_rfl⟩
theorem odd10 : badLet (.lst [.int 1]) := ⟨by intros; kernel_rfl, by intros; kernel_rfl⟩
theorem odd11 : badLet (.tup [.int 0]) := ⟨by intros; kernel_rfl, by intros; kernel_rfl⟩
theorem odd12 : badLet (.str "") := ⟨by intros; kernel_rfl, by intros; kernel_rfl⟩
theorem odd13 : badLet (.str "yes") := ⟨by intros; kernel_rfl, by intros; kernel_rfl⟩
theorem odd_all {d : D} (h : d ∈ odds) : badLet d := by
  unfold odds at h
  simp only [List.mem_cons, List.not_mem_nil, or_false] at h
  rcases h with rfl | rfl | rfl | rfl | rfl | rfl | rfl | rfl | rfl | rfl | rfl | rfl | rfl | rfl
  · exact odd0
  · exact odd1
  · exact odd2
  · exact odd3
  · exact odd4
  · exact odd5
  · exact odd6
  · exact odd7
  · exact odd8
  · exact odd9
  · exact odd10
  · exact odd11
  · exact odd12
  · exact odd13
end K37m
set_option Elab.async false
set_option linter.all false
set_option maxRecDepth 100000
set_option maxHeartbeats 4000000
/-! NM: straight lines by rules; sizes of texts. -/
namespace K37m
open PySem PySem.Spec DP
open K37 hiding R
open TL (tl numL joinL)

/-! ### values of expressions -/
def OkO (m : M Op) (E : En) (a : D) : Prop := ∃ x, m E = .ok x E ∧ look E x = some a
section
variable {E : En} {a b d : D} {ma mb : M Op} {m m' : M D}
theorem oo_fz {i : Nat} (h : E[i]? = some (.fz a)) : OkO (oVar i) E a := ⟨.va a, by unfold oVar; rw [h], rfl⟩
theorem oo_ow {i : Nat} {q : Bool} (h : E[i]? = some (.ow q a)) : OkO (oVar i) E a := ⟨.pl i, by unfold oVar; rw [h], by
  show (match E[i]? with
    | some (.ow _ d) => some d
    | some (.fz d) => some d
    | _ => none) = _
  rw [h]⟩
theorem oo_va (h : m E = .ok a E) : OkO (oVa m) E a := ⟨.va a, by unfold oVa; rw [h], rfl⟩
theorem v_op {f : D → D → Option D} (h1 : OkO ma E a) (h2 : OkO mb E b) (h : f a b = some d) : eOp f ma mb E = .ok d E := by
  obtain ⟨x, p1, q1⟩ := h1
  obtain ⟨y, p2, q2⟩ := h2
  exact run_op p1 p2 q1 q2 h
theorem v_join {y : PySem.Str} (h : OkO ma E a) (hj : joinD y a = some d) : eJoin y ma E = .ok d E := by
  obtain ⟨x, p, q⟩ := h
  unfold eJoin
  rw [p]
  simp only [R.bind, q, hj]
theorem v_sl {ml mh : M (Option Int)} {lo hi : Option Int} (h : OkO ma E a) (h1 : ml E = .ok lo E) (h2 : mh E = .ok hi E) (hs : slD a lo hi = some d) : eSl ma ml mh E = .ok d E := by
  obtain ⟨x, p, q⟩ := h
  unfold eSl
  rw [p]
  simp only [R.bind, h1, h2, q, hs]
theorem v_args1 (h : OkO ma E a) : ∃ x, (aCons ma aNil) E = .ok [x] E ∧ looks E [x] = some [a] := by
  obtain ⟨x, p, q⟩ := h
  refine ⟨x, ?_, ?_⟩
  · unfold aCons aNil
    rw [p]
  · unfold looks
    rw [q]
    rfl
theorem v_args2 (h : OkO ma E a) (h' : OkO mb E b) : ∃ x y, (aCons ma (aCons mb aNil)) E = .ok [x, y] E ∧ looks E [x, y] = some [a, b] := by
  obtain ⟨x, p, q⟩ := h
  obtain ⟨y, p', q'⟩ := v_args1 h'
  refine ⟨x, y, ?_, ?_⟩
  · unfold aCons
    rw [p]
    show ((aCons mb aNil) E).bind _ = _
    rw [p']
  · unfold looks
    rw [q, q']
theorem v_mt1 {T : String} {f : D → List D → Option D} (h : OkO ma E a) (h' : OkO mb E b) (ht : tyD T a = true) (hf : f a [b] = some d) : eMt T f ma (aCons mb aNil) E = .ok d E := by
  obtain ⟨x, p, q⟩ := h
  obtain ⟨y, p', q'⟩ := v_args1 h'
  unfold eMt
  rw [p]
  simp only [R.bind, q, ht, if_true, p', q', hf]
theorem v_bi1 {f : List D → Option D} (h : OkO ma E a) (hf : f [a] = some d) : eBi f (aCons ma aNil) E = .ok d E := by
  obtain ⟨y, p', q'⟩ := v_args1 h
  unfold eBi
  rw [p']
  simp only [R.bind, q', hf]
theorem v_cst : eCst d E = .ok d E := rfl
theorem v_var {i : Nat} (h : E[i]? = some (.fz d)) : eVar i E = .ok d E := by unfold eVar; rw [h]
theorem v_no : hNo E = .ok none E := rfl
theorem v_so {i : Int} (h : m E = .ok (.int i) E) : hSo m E = .ok (some i) E := by unfold hSo; rw [h]
theorem v_neg {i : Int} (h : m E = .ok (.int i) E) : eNeg m E = .ok (.int (-i)) E := by
  unfold eNeg
  rw [h]
  rfl
/-- arguments that are values -/
def OkA (m : M (List Op)) (E : En) (ds : List D) : Prop := ∃ os, m E = .ok os E ∧ vas os = some ds
theorem oa_nil : OkA aNil E [] := ⟨[], rfl, rfl⟩
theorem oa_cons {r : M (List Op)} {ds : List D} (h : m E = .ok a E) (hr : OkA r E ds) : OkA (aCons (oVa m) r) E (a :: ds) := by
  obtain ⟨os, p, q⟩ := hr
  refine ⟨.va a :: os, ?_, ?_⟩
  · unfold aCons oVa
    rw [h]
    show (r E).bind _ = _
    rw [p]
  · unfold vas
    rw [q]
theorem v_lst {r : M (List Op)} {ds : List D} (hr : OkA r E ds) (hl : ds.length ≤ sizeLine) : nLst r E = .ok (.lst ds) E := by
  obtain ⟨os, p, q⟩ := hr
  unfold nLst
  rw [p]
  simp only [R.bind, q, hl, if_true]
theorem v_tup {r : M (List Op)} {ds : List D} (hr : OkA r E ds) (hl : ds.length ≤ sizeLine) : eTup r E = .ok (.tup ds) E := by
  obtain ⟨os, p, q⟩ := hr
  unfold eTup
  rw [p]
  simp only [R.bind, q, hl, if_true]
theorem v_call1 {den : List D → DR} (h : m E = .ok a E) (hd : den [a] = .ok d []) : eCall [false] den (aCons (oVa m) aNil) E = .ok d E := by
  unfold eCall aCons oVa aNil
  rw [h]
  simp only [R.bind, argsOf, mIx, List.nodup_nil, if_true, hd, wback]
theorem v_call2 {den : List D → DR} (h : m E = .ok a E) (h' : m' E = .ok b E) (hd : den [a, b] = .ok d []) : eCall [false, false] den (aCons (oVa m) (aCons (oVa m') aNil)) E = .ok d E := by
  unfold eCall aCons oVa aNil
  rw [h]
  simp only [R.bind, h', argsOf, mIx, List.nodup_nil, if_true, hd, wback]
theorem v_call3 {den : List D → DR} {c : D} {m'' : M D} (h : m E = .ok a E) (h' : m' E = .ok b E) (h'' : m'' E = .ok c E) (hd : den [a, b, c] = .ok d []) : eCall [false, false, false] den (aCons (oVa m) (aCons (oVa m') (aCons (oVa m'') aNil))) E = .ok d E := by
  unfold eCall aCons oVa aNil
  rw [h]
  simp only [R.bind, h', h'', argsOf, mIx, List.nodup_nil, if_true, hd, wback]
theorem b_E {q : Bool} (h : m E = .ok (.bl q) E) : bE m E = .ok q E := by unfold bE; rw [h]
theorem b_not {q : Bool} {t : M Bool} (h : t E = .ok q E) : bNot t E = .ok (!q) E := by unfold bNot; rw [h]
theorem b_or {p q : Bool} {s t : M Bool} (h : s E = .ok p E) (h' : t E = .ok q E) : bOr s t E = .ok (p || q) E := by
  unfold bOr
  rw [h]
  show (if p = true then R.ok true E else t E) = _
  rw [h']
  cases p <;> rfl
theorem b_orf {q : Bool} {s t : M Bool} (h : s E = .ok false E) (h' : t E = .ok q E) : bOr s t E = .ok q E := b_or h h'
theorem b_andf {s t : M Bool} (h : s E = .ok false E) : bAnd s t E = .ok false E := by
  unfold bAnd
  rw [h]
  rfl
theorem b_andt {q : Bool} {s t : M Bool} (h : s E = .ok true E) (h' : t E = .ok q E) : bAnd s t E = .ok q E := by
  unfold bAnd
  rw [h]
  exact h'
theorem s_set {i : Nat} {s : Sl} (h : m E = .ok d E) (hs : E[i]? = some s) (hn : nm s = true) : sSet i m E = .ok .nx (E.set i (.fz d)) := run_set h (free_of hs hn)
theorem s_new {i : Nat} {s : Sl} (h : m E = .ok d E) (hs : E[i]? = some s) (hn : nm s = true) : sNew i m E = .ok .nx (E.set i (.ow false d)) := by
  unfold sNew
  rw [h]
  exact if_pos (free_of hs hn)
theorem s_put {i j : Nat} {mk : M D} {q : Bool} {ds : List D} (h : m E = .ok d E) (hk : mk E = .ok (.int (j : Nat)) E) (hs : E[i]? = some (.ow q (.lst ds))) (hj : j < ds.length) : sPut i mk m E = .ok .nx (E.set i (.ow q (.lst (ds.set j d)))) := by
  have hx : L2.ixN ds.length ((j : Nat) : Int) = some j := by
    first
    | exact L2.ixN_nat hj
    | (unfold L2.ixN; simp; omega)
  unfold sPut
  rw [h]
  show (if isLst E[i]? = true then _ else _) = _
  rw [if_pos (by rw [hs]; rfl), hk]
  simp only [R.bind, hs, hx]
end
/-! ### sizes -/
def wt (l : List PySem.Str) : Nat := (l.map fun x => x.length + 1).sum
theorem wt_app (a b : List PySem.Str) : wt (a ++ b) = wt a + wt b := by
  unfold wt
  rw [List.map_append, List.sum_append]
theorem wt_one (x : PySem.Str) : wt [x] = x.length + 1 := by simp [wt]
theorem wt_cut (l : List PySem.Str) (i : Nat) : wt (l.take i) + wt (l.drop i) = wt l := by
  rw [← wt_app, List.take_append_drop]
theorem wt_drop (l : List PySem.Str) (i j : Nat) (h : i ≤ j) : wt (l.drop j) ≤ wt (l.drop i) := by
  have := wt_cut (l.drop i) (j - i)
  rw [List.drop_drop, show i + (j - i) = j by omega] at this
  omega
theorem wt_mem {x : PySem.Str} : ∀ {l : List PySem.Str}, x ∈ l → x.length + 1 ≤ wt l
  | y :: l, h => by
    have e : wt (y :: l) = (y.length + 1) + wt l := by simp [wt]
    rcases List.mem_cons.mp h with rfl | h
    · omega
    · have := wt_mem h
      omega
theorem wt_set (x : PySem.Str) : ∀ (l : List PySem.Str) (i : Nat), wt (l.set i x) ≤ wt l + x.length + 1
  | [], _ => by simp [wt]
  | y :: l, 0 => by simp [wt]; omega
  | y :: l, i + 1 => by
    have := wt_set x l i
    simp only [wt, List.set_cons_succ, List.map_cons, List.sum_cons] at this ⊢
    omega
theorem wt_cnt : ∀ l : List PySem.Str, l.length ≤ wt l
  | [] => Nat.zero_le _
  | y :: l => by
    have := wt_cnt l
    simp only [wt, List.map_cons, List.sum_cons, List.length_cons] at this ⊢
    omega
theorem wt_sum : ∀ l : List PySem.Str, (l.map (·.length)).sum + l.length = wt l
  | [] => rfl
  | y :: l => by
    have := wt_sum l
    simp only [wt, List.map_cons, List.sum_cons, List.length_cons] at this ⊢
    omega
theorem wt_join (y : PySem.Str) (hy : y.length = 1) (l : List PySem.Str) : (Txt.join y l).length ≤ wt l := by
  have := join_len y l
  rw [hy, Nat.mul_one, wt_sum] at this
  exact this
theorem joinL_wt (s : Nat) : ∀ ps : List (List Nat), ps ≠ [] → (joinL [s] ps).length + 1 = (ps.map fun p => p.length + 1).sum
  | [], h => absurd rfl h
  | [p], _ => by simp [joinL]
  | p :: q :: r, _ => by
    have ih := joinL_wt s (q :: r) (by simp)
    show (p ++ ([s] ++ joinL [s] (q :: r))).length + 1 = _
    rw [List.length_append, List.length_append, List.map_cons, List.sum_cons, ← ih]
    simp
    omega
theorem wt_ln (t : PySem.Str) : wt (lnS t) = t.length + 1 := by
  have h := joinL_wt 10 ((lnS t).map tl) (by simpa using ln_ne t)
  have e := joined t "\n"
  rw [tl_nl] at e
  rw [show (Txt.split t "\n") = lnS t from rfl] at e
  rw [e, ← len_str, List.map_map] at h
  rw [h]
  exact congrArg List.sum (List.map_congr_left fun x _ => by
    show x.length + 1 = (tl x).length + 1
    rw [len_str])
theorem wt_sp (t : PySem.Str) : wt (sp t) = t.length + 1 := by
  have h := joinL_wt 32 ((sp t).map tl) (by simpa using sp_ne t)
  have e := joined t " "
  rw [tl_sp] at e
  rw [show (Txt.split t " ") = sp t from rfl] at e
  rw [e, ← len_str, List.map_map] at h
  rw [h]
  exact congrArg List.sum (List.map_congr_left fun x _ => by
    show x.length + 1 = (tl x).length + 1
    rw [len_str])
theorem jn_D (y : PySem.Str) (hy : y.length = 1) (l : List PySem.Str) (h : wt l ≤ 16777216) : joinD y (.lst (l.map D.str)) = some (.str (Txt.join y l)) := join_D y l (by rw [hy, Nat.mul_one, wt_sum]; exact h)
theorem sl_to (l : List PySem.Str) (p : Nat) : slD (.lst (l.map D.str)) none (some (p : Int)) = some (.lst ((l.take p).map D.str)) := by
  show some (D.lst (cutL (l.map D.str) none (some (p : Int)))) = _
  rw [cut_to, List.map_take]
theorem sl_from (l : List PySem.Str) (p : Nat) (h : p ≤ l.length) : slD (.lst (l.map D.str)) (some (p : Int)) none = some (.lst ((l.drop p).map D.str)) := by
  show some (D.lst (cutL (l.map D.str) (some (p : Int)) none)) = _
  rw [cut_all _ _ (by rw [List.length_map]; exact h), List.map_drop]
theorem add_LL (f : D → D → Option D) (hf : f = addD ∨ f = addL) (a b : List PySem.Str) (h : wt a + wt b ≤ 16777216) : f (.lst (a.map D.str)) (.lst (b.map D.str)) = some (.lst ((a ++ b).map D.str)) := by
  have h1 := wt_cnt a
  have h2 := wt_cnt b
  have hl : (a.map D.str).length + (b.map D.str).length ≤ sizeLine := by rw [List.length_map, List.length_map, sizeLine_eq]; omega
  rw [List.map_append]
  rcases hf with rfl | rfl
  · exact addD_lst hl
  · exact if_pos hl
theorem ix_L {l : List PySem.Str} {p : Nat} {x : PySem.Str} (h : l[p]? = some x) : ixD (.lst (l.map D.str)) (.int (p : Nat)) = some (.str x) := ixL_ok (by rw [List.getElem?_map, h]; rfl)
theorem cutS_le (x : PySem.Str) (lo hi : Option Int) : (L2.cutS x lo hi).length ≤ x.length := by
  show ((x.cps.toList.drop (HT.sIx x.length 0 lo)).take (HT.sIx x.length x.length hi - HT.sIx x.length 0 lo)).toArray.size ≤ x.cps.size
  rw [List.size_toArray, List.length_take, List.length_drop, Array.length_toList]
  omega
end K37m
set_option Elab.async false
set_option linter.all false
set_option maxRecDepth 100000
set_option maxHeartbeats 4000000
/-! NN: odd words; changed texts. -/
namespace K37m
open PySem PySem.Spec DP
open K37 hiding R
open TL (tl numL joinL)

theorem modN (a b : Nat) (h : 0 < b) : modD (.int (a : Nat)) (.int (b : Nat)) = some (.int ((a % b : Nat) : Int)) := by
  rw [modD_ok (decide_eq_true (by omega))]
  rfl
theorem pick {l : List PySem.Str} {j n : Nat} (h : ∀ x ∈ l, x.length ≤ n) (hj : j < l.length) : ∃ x, l[j]? = some x ∧ x.length ≤ n := ⟨l[j], List.getElem?_eq_getElem hj, h _ (List.getElem_mem hj)⟩
def menA : List PySem.Str := ["", "00", "01", "+1", "-1", "-0", "1.0", "Yes", "yes", "no", "taken", "never", "maybe", "paper", "399", "400", "4000"]
def menB (x y z : PySem.Str) : List PySem.Str := [x, y, z, repS "9" 30, "0", "007", "1e2", "1,", "a", "0x1", "398", "1" ++ repS "0" 25]
theorem odd_ok (a b : Nat) (ha : a < 60) (hb : b < 1200) : ∃ x, den_odd_word [.int (a : Nat), .int (b : Nat)] = .ok (.str x) [] ∧ x.length ≤ 30 := by
  have szl := sizeLine_eq
  have s1 := str_num (n := b) (by omega)
  have s2 := str_num (n := b + 1) (by omega)
  obtain ⟨z, s3, z3⟩ : ∃ z, strD [.int ((b : Int) - 1)] = some (.str z) ∧ z.length ≤ 30 := by
    by_cases h : b = 0
    · subst h
      exact ⟨Str.ofString (toString (-1 : Int)), by kernel_rfl, by decide +kernel⟩
    · refine ⟨numS (b - 1), ?_, Nat.le_trans (numS_len (k := 4) (by decide) (by omega)) (by decide)⟩
      rw [show (b : Int) - 1 = ((b - 1 : Nat) : Int) by omega]
      exact str_num (by omega)
  have m1 : mulS (.str "9") (.int 30) = some (.str (repS "9" 30)) := by kernel_rfl
  have m2 : mulS (.str "0") (.int 25) = some (.str (repS "0" 25)) := by kernel_rfl
  have l9 : (repS "9" 30).length = 30 := by decide +kernel
  have l0 : (repS "0" 25).length = 25 := by decide +kernel
  have l1 : ("1" : PySem.Str).length = 1 := by decide +kernel
  have a1 : addD (.str "1") (.str (repS "0" 25)) = some (.str ("1" ++ repS "0" 25)) := addD_str (by rw [l1, l0, szl]; decide)
  have nl1 : (numS b).length ≤ 30 := Nat.le_trans (numS_len (k := 4) (by decide) (by omega)) (by decide)
  have nl2 : (numS (b + 1)).length ≤ 30 := Nat.le_trans (numS_len (k := 4) (by decide) (by omega)) (by decide)
  have all : ∀ x ∈ menA ++ menB (numS b) (numS (b + 1)) z, x.length ≤ 30 := fun x hx => by
    rcases List.mem_append.mp hx with hx | hx
    · have : ∀ x ∈ menA, x.length ≤ 30 := by decide +kernel
      exact this x hx
    · unfold menB at hx
      simp only [List.mem_cons, List.not_mem_nil, or_false] at hx
      rcases hx with rfl | rfl | rfl | rfl | rfl | rfl | rfl | rfl | rfl | rfl | rfl | rfl
      · exact nl1
      · exact nl2
      · exact z3
      · omega
      · decide +kernel
      · decide +kernel
      · decide +kernel
      · decide +kernel
      · decide +kernel
      · decide +kernel
      · decide +kernel
      · rw [DP.len_cat, l1, l0]
        decide
  obtain ⟨x, hx, hl⟩ := pick (j := a % 29) all (by show a % 29 < 29; omega)
  refine ⟨x, ?_, hl⟩
  refine runD_ok rfl (e := [.fz (.int (a : Nat)), .fz (.int (b : Nat)), .fz (.lst ((menA ++ menB (numS b) (numS (b + 1)) z).map D.str))]) ?_ rfl
  unfold ev_odd_word
  refine (run_seq (e1 := [.fz (.int (a : Nat)), .fz (.int (b : Nat)), .fz (.lst (menA.map D.str))]) ?_).trans ?_
  · exact s_set (v_lst (oa_cons v_cst (oa_cons v_cst (oa_cons v_cst (oa_cons v_cst (oa_cons v_cst (oa_cons v_cst (oa_cons v_cst (oa_cons v_cst (oa_cons v_cst (oa_cons v_cst (oa_cons v_cst (oa_cons v_cst (oa_cons v_cst (oa_cons v_cst (oa_cons v_cst (oa_cons v_cst (oa_cons v_cst oa_nil))))))))))))))))) (by show 17 ≤ sizeLine; omega)) rfl rfl
  refine (run_seq (e1 := [.fz (.int (a : Nat)), .fz (.int (b : Nat)), .fz (.lst ((menA ++ menB (numS b) (numS (b + 1)) z).map D.str))]) ?_).trans ?_
  · refine s_set (v_op (oo_fz rfl) (oo_va (v_lst (ds := (menB (numS b) (numS (b + 1)) z).map D.str) ?_ (by simp [menB]; omega))) ?_) rfl rfl
    · refine oa_cons (v_bi1 (oo_fz rfl) s1) (oa_cons (v_bi1 (oo_va (v_op (oo_fz rfl) (oo_va v_cst) (addD_int _ _))) ?_) (oa_cons (v_bi1 (oo_va (v_op (oo_fz rfl) (oo_va v_cst) (subD_int _ _))) s3) (oa_cons (v_op (oo_va v_cst) (oo_va v_cst) m1) (oa_cons v_cst (oa_cons v_cst (oa_cons v_cst (oa_cons v_cst (oa_cons v_cst (oa_cons v_cst (oa_cons v_cst (oa_cons (v_op (oo_va v_cst) (oo_va (v_op (oo_va v_cst) (oo_va v_cst) m2)) a1) oa_nil)))))))))))
      rw [show (b : Int) + 1 = ((b + 1 : Nat) : Int) by push_cast; rfl]
      exact s2
    · rw [List.map_append]
      exact addD_lst (by simp [menA, menB]; omega)
  · have ln : lenD [.lst ((menA ++ menB (numS b) (numS (b + 1)) z).map D.str)] = some (.int ((29 : Nat) : Int)) := by
      show some (D.int ((menA ++ menB (numS b) (numS (b + 1)) z).map D.str).length) = _
      rw [List.length_map]
      rfl
    exact run_ret (v_op (oo_fz rfl) (oo_va (v_op (oo_va (v_bi1 (d := .int (a : Nat)) (oo_fz rfl) rfl)) (oo_va (v_bi1 (oo_fz rfl) ln)) (modN a 29 (by decide)))) (ix_L hx))
/-! ### changed -/
section
variable {E : En} {k c : Int} {m n : M Fl} {r : R Fl}
theorem kc (h : E[7]? = some (.fz (.int k))) : (bE (eOp eqD (oVar 7) (oVa (eCst (.int c))))) E = .ok (k == c) E := b_E (v_op (oo_fz h) (oo_va v_cst) (eqD_int _ _))
theorem sk (h : E[7]? = some (.fz (.int k))) (hk : (k == c) = false) (hr : n E = r) : sSeq (sIf (bE (eOp eqD (oVar 7) (oVa (eCst (.int c))))) m sNil) n E = r := by
  refine (run_seq (e1 := E) (run_iff (e1 := E) ?_ rfl)).trans hr
  rw [← hk]
  exact kc h
theorem hit {d : D} {e1 : En} (h : E[7]? = some (.fz (.int k))) (hk : (k == c) = true) (hm : m E = .ok (.rt d) e1) : sSeq (sIf (bE (eOp eqD (oVar 7) (oVa (eCst (.int c))))) m sNil) n E = .ok (.rt d) e1 := by
  refine run_rt (run_ift (e1 := E) ?_ hm)
  rw [← hk]
  exact kc h
theorem elT (h : E[7]? = some (.fz (.int k))) (hk : (k == c) = true) (hm : m E = r) : sIf (bE (eOp eqD (oVar 7) (oVa (eCst (.int c))))) m n E = r := by
  refine run_ift (e1 := E) ?_ hm
  rw [← hk]
  exact kc h
theorem elF (h : E[7]? = some (.fz (.int k))) (hk : (k == c) = false) (hm : n E = r) : sIf (bE (eOp eqD (oVar 7) (oVa (eCst (.int c))))) m n E = r := by
  refine run_iff (e1 := E) ?_ hm
  rw [← hk]
  exact kc h
end
abbrev C0 (t : PySem.Str) (row : D) (L W : List PySem.Str) (p o s k : Nat) : En := [.fz (.str t), .fz row, .ow false (.lst (L.map D.str)), .fz (.int (p : Nat)), .fz (.int (o : Nat)), .ow false (.lst (W.map D.str)), .fz (.int (s : Nat)), .fz (.int (k : Nat)), .no, .no]
theorem fin_ok (t : PySem.Str) (row : D) (L W : List PySem.Str) (p o s k : Nat) (hp : p < L.length) (h : wt L + wt W + 10 ≤ 16777216) :
    ∃ t' e', (sSeq (sPut 2 (eVar 3) (eJoin " " (oVar 5))) (sRet (eJoin "\n" (oVar 2)))) (C0 t row L W p o s k) = .ok (.rt (.str t')) e' ∧ muts [false, false] e' = some [] ∧ t'.length ≤ wt L + wt W + 1 := by
  have jl := wt_join " " len1_sp W
  have ws := wt_set (Txt.join " " W) L p
  have jl2 := wt_join "\n" len1_nl (L.set p (Txt.join " " W))
  have j1 := jn_D " " len1_sp W (by omega)
  have j2 := jn_D "\n" len1_nl (L.set p (Txt.join " " W)) (by omega)
  refine ⟨Txt.join "\n" (L.set p (Txt.join " " W)), C0 t row (L.set p (Txt.join " " W)) W p o s k, ?_, rfl, by omega⟩
  refine (run_seq (e1 := C0 t row (L.set p (Txt.join " " W)) W p o s k) ?_).trans (run_ret (v_join (oo_ow rfl) j2))
  have := s_put (E := C0 t row L W p o s k) (i := 2) (j := p) (m := eJoin " " (oVar 5)) (mk := eVar 3) (q := false) (ds := L.map D.str) (v_join (oo_ow rfl) j1) (v_var rfl) rfl (by rw [List.length_map]; exact hp)
  rw [this]
  show R.ok Fl.nx _ = _
  rw [show ((L.map D.str).set p (D.str (Txt.join " " W))) = (L.set p (Txt.join " " W)).map D.str by rw [List.map_set]]
  rfl
end K37m
set_option Elab.async false
set_option linter.all false
set_option maxRecDepth 100000
set_option maxHeartbeats 8000000
/-! NO: every change gives a text. -/
namespace K37m
open PySem PySem.Spec DP
open K37 hiding R
open TL (tl numL joinL)

def m3 (x : PySem.Str) : List PySem.Str := ["\n", "\n\n", " ", "\n" ++ x, "\n7", " 7"]
def m5 : List PySem.Str := [" ", "0", "\n", "a", "1", "-", ""]
def ev_tail : M Fl := (sSeq (sIf (bE (eOp eqD (oVar 7) (oVa (eCst (.int 0))))) (sRet (eJoin "\n" (oVa (eOp addD (oVa (eSl (oVar 2) hNo (hSo (eVar 3)))) (oVa (eSl (oVar 2) (hSo (eOp addD (oVar 3) (oVa (eCst (.int 1))))) hNo)))))) sNil)
  (sSeq (sIf (bE (eOp eqD (oVar 7) (oVa (eCst (.int 1))))) (sRet (eJoin "\n" (oVa (eOp addD (oVa (eOp addD (oVa (eSl (oVar 2) hNo (hSo (eVar 3)))) (oVa (nLst (aCons (oVa (eOp ixD (oVar 2) (oVar 4))) aNil))))) (oVa (eSl (oVar 2) (hSo (eVar 3)) hNo)))))) sNil)
  (sSeq (sIf (bE (eOp eqD (oVar 7) (oVa (eCst (.int 2))))) (sSeq (sSet 8 (eOp ixD (oVar 2) (oVar 3)))
  (sSeq (sPut 2 (eVar 3) (eOp ixD (oVar 2) (oVar 4)))
  (sSeq (sPut 2 (eVar 4) (eVar 8))
  (sRet (eJoin "\n" (oVar 2)))))) sNil)
  (sSeq (sIf (bE (eOp eqD (oVar 7) (oVa (eCst (.int 3))))) (sRet (eOp addD (oVar 0) (oVa (eOp ixD (oVa (nLst (aCons (oVa (eCst (.str "\n"))) (aCons (oVa (eCst (.str "\n\n"))) (aCons (oVa (eCst (.str " "))) (aCons (oVa (eOp addD (oVa (eCst (.str "\n"))) (oVa (eOp ixD (oVar 2) (oVar 4))))) (aCons (oVa (eCst (.str "\n7"))) (aCons (oVa (eCst (.str " 7"))) aNil)))))))) (oVa (eOp modD (oVa (eBi intD (aCons (oVa (eOp ixD (oVar 1) (oVa (eCst (.int 3))))) aNil))) (oVa (eCst (.int 6))))))))) sNil)
  (sSeq (sIf (bAnd (bE (eOp eqD (oVar 7) (oVa (eCst (.int 4))))) (bE (eOp eqD (oVa (eOp modD (oVa (eBi intD (aCons (oVa (eOp ixD (oVar 1) (oVa (eCst (.int 4))))) aNil))) (oVa (eCst (.int 2))))) (oVa (eCst (.int 0)))))) (sRet (eJoin "\n" (oVa (eSl (oVar 2) hNo (hSo (eOp addD (oVar 3) (oVa (eCst (.int 1))))))))) sNil)
  (sSeq (sIf (bE (eOp eqD (oVar 7) (oVa (eCst (.int 4))))) (sRet (eSl (oVar 0) hNo (hSo (eOp modD (oVa (eBi intD (aCons (oVa (eOp addD (oVa (eOp mulI (oVa (eOp ixD (oVar 1) (oVa (eCst (.int 1))))) (oVa (eCst (.int 60))))) (oVa (eOp ixD (oVar 1) (oVa (eCst (.int 2))))))) aNil))) (oVa (eOp addD (oVa (eBi lenD (aCons (oVar 0) aNil))) (oVa (eCst (.int 1))))))))) sNil)
  (sSeq (sIf (bE (eOp eqD (oVar 7) (oVa (eCst (.int 5))))) (sSeq (sSet 9 (eOp modD (oVa (eBi intD (aCons (oVa (eOp addD (oVa (eOp mulI (oVa (eOp ixD (oVar 1) (oVa (eCst (.int 1))))) (oVa (eCst (.int 60))))) (oVa (eOp ixD (oVar 1) (oVa (eCst (.int 2))))))) aNil))) (oVa (eOp addD (oVa (eBi lenD (aCons (oVar 0) aNil))) (oVa (eCst (.int 1)))))))
  (sRet (eOp addD (oVa (eOp addD (oVa (eSl (oVar 0) hNo (hSo (eVar 9)))) (oVa (eOp ixD (oVa (nLst (aCons (oVa (eCst (.str " "))) (aCons (oVa (eCst (.str "0"))) (aCons (oVa (eCst (.str "\n"))) (aCons (oVa (eCst (.str "a"))) (aCons (oVa (eCst (.str "1"))) (aCons (oVa (eCst (.str "-"))) (aCons (oVa (eCst (.str ""))) aNil))))))))) (oVa (eOp modD (oVa (eBi intD (aCons (oVa (eOp ixD (oVar 1) (oVa (eCst (.int 3))))) aNil))) (oVa (eCst (.int 7))))))))) (oVa (eSl (oVar 0) (hSo (eOp addD (oVar 9) (oVa (eOp modD (oVa (eBi intD (aCons (oVa (eOp ixD (oVar 1) (oVa (eCst (.int 4))))) aNil))) (oVa (eCst (.int 2))))))) hNo))))) sNil)
  (sSeq (sIf (bE (eOp eqD (oVar 7) (oVa (eCst (.int 9))))) (sRet (eJoin "\n" (oVa (eOp addD (oVa (eOp addD (oVa (eSl (oVar 2) hNo (hSo (eVar 3)))) (oVa (nLst (aCons (oVa (eJoin " " (oVa (eSl (oVar 5) hNo (hSo (eVar 6)))))) (aCons (oVa (eJoin " " (oVa (eSl (oVar 5) (hSo (eVar 6)) hNo)))) aNil)))))) (oVa (eSl (oVar 2) (hSo (eOp addD (oVar 3) (oVa (eCst (.int 1))))) hNo)))))) sNil)
  (sSeq (sIf (bE (eOp eqD (oVar 7) (oVa (eCst (.int 6))))) (sNew 5 (eOp addL (oVa (eSl (oVar 5) hNo (hSo (eVar 6)))) (oVa (eSl (oVar 5) (hSo (eOp addD (oVar 6) (oVa (eCst (.int 1))))) hNo)))) (sIf (bE (eOp eqD (oVar 7) (oVa (eCst (.int 7))))) (sNew 5 (eOp addL (oVa (eOp addD (oVa (eSl (oVar 5) hNo (hSo (eVar 6)))) (oVa (nLst (aCons (oVa (eOp ixD (oVar 5) (oVa (eOp modD (oVa (eBi intD (aCons (oVa (eOp ixD (oVar 1) (oVa (eCst (.int 4))))) aNil))) (oVa (eBi lenD (aCons (oVar 5) aNil))))))) aNil))))) (oVa (eSl (oVar 5) (hSo (eVar 6)) hNo)))) (sIf (bAnd (bE (eOp eqD (oVar 7) (oVa (eCst (.int 8))))) (bE (eOp ltD (oVa (eOp addD (oVar 3) (oVa (eCst (.int 1))))) (oVa (eBi lenD (aCons (oVar 2) aNil)))))) (sSeq (sNew 5 (eOp addL (oVar 5) (oVa (eMt "str" splitD (oVa (eOp ixD (oVar 2) (oVa (eOp addD (oVar 3) (oVa (eCst (.int 1))))))) (aCons (oVa (eCst (.str " "))) aNil)))))
  (sNew 2 (eOp addL (oVa (eSl (oVar 2) hNo (hSo (eOp addD (oVar 3) (oVa (eCst (.int 1))))))) (oVa (eSl (oVar 2) (hSo (eOp addD (oVar 3) (oVa (eCst (.int 2))))) hNo))))) (sIf (bE (eOp ltD (oVar 7) (oVa (eCst (.int 12))))) (sPut 5 (eVar 6) (eBi strD (aCons (oVa (eOp modD (oVa (eOp mulI (oVa (eBi intD (aCons (oVa (eOp ixD (oVar 1) (oVa (eCst (.int 4))))) aNil))) (oVa (eCst (.int 7))))) (oVa (eCst (.int 400))))) aNil))) (sPut 5 (eVar 6) (eCall [false, false] den_odd_word (aCons (oVa (eOp ixD (oVar 1) (oVa (eCst (.int 4))))) (aCons (oVa (eOp ixD (oVar 1) (oVa (eCst (.int 5))))) aNil))))))))
  (sSeq (sPut 2 (eVar 3) (eJoin " " (oVar 5)))
  (sRet (eJoin "\n" (oVar 2)))))))))))))
theorem sk4 {E : En} {k : Int} {T : M Bool} {m n : M Fl} {r : R Fl} (h : E[7]? = some (.fz (.int k))) (hk : (k == 4) = false) (hr : n E = r) : sSeq (sIf (bAnd (bE (eOp eqD (oVar 7) (oVa (eCst (.int 4))))) T) m sNil) n E = r := by
  refine (run_seq (e1 := E) (run_iff (e1 := E) (b_andf ?_) rfl)).trans hr
  rw [← hk]
  exact kc h
theorem ifT {E e1 : En} {T : M Bool} {m n : M Fl} {d : D} (h : T E = .ok true E) (hm : m E = .ok (.rt d) e1) : sSeq (sIf T m sNil) n E = .ok (.rt d) e1 := run_rt (run_ift h hm)
theorem ifF {E : En} {T : M Bool} {m n : M Fl} {r : R Fl} (h : T E = .ok false E) (hm : n E = r) : sSeq (sIf T m sNil) n E = r := (run_seq (run_iff h rfl)).trans hm
theorem changed_ok (t : PySem.Str) (ht : t.length ≤ 150000) (n0 n1 n2 n3 n4 n5 : Nat) (h0 : n0 < 14) (h1 : n1 < 997) (h2 : n2 < 997) (h3 : n3 < 60) (h4 : n4 < 60) (h5 : n5 < 1200) :
    ∃ t', den_changed [.str t, .lst [.int (n0 : Nat), .int (n1 : Nat), .int (n2 : Nat), .int (n3 : Nat), .int (n4 : Nat), .int (n5 : Nat)]] = .ok (.str t') [] ∧ t'.length ≤ 3 * t.length + 100 := by
  have szl := sizeLine_eq
  have hB := big_eq
  have hsD := ln_D (l := t) (by omega)
  have hw := wt_ln t
  have hne := List.length_pos_iff.mpr (ln_ne t)
  generalize hL : lnS t = L at *
  have hmem : ∀ x ∈ L, x.length ≤ t.length := fun x hx => part_len (b := "\n") (show x ∈ lnS t by rw [hL]; exact hx)
  obtain ⟨p, hp, hpe⟩ : ∃ p, p < L.length ∧ n1 % L.length = p := ⟨_, Nat.mod_lt _ hne, rfl⟩
  obtain ⟨o, ho, hoe⟩ : ∃ o, o < L.length ∧ n2 % L.length = o := ⟨_, Nat.mod_lt _ hne, rfl⟩
  have lp : L[p]? = some L[p] := List.getElem?_eq_getElem hp
  have lo : L[o]? = some L[o] := List.getElem?_eq_getElem ho
  have mp := wt_mem (List.getElem_mem hp)
  have mo := wt_mem (List.getElem_mem ho)
  generalize hX : L[p] = X at *
  generalize hY : L[o] = Y at *
  have hXl : X.length ≤ t.length := by rw [← hX]; exact hmem _ (List.getElem_mem hp)
  have hsX := sp_D (l := X) (by omega)
  have hwW := wt_sp X
  have hnW := List.length_pos_iff.mpr (sp_ne X)
  generalize sp X = W at *
  obtain ⟨s, hs, hse⟩ : ∃ s, s < W.length ∧ n3 % W.length = s := ⟨_, Nat.mod_lt _ hnW, rfl⟩
  have lenL : lenD [.lst (L.map D.str)] = some (.int (L.length : Nat)) := by
    show some (D.int (L.map D.str).length) = _
    rw [List.length_map]
  have lenW : lenD [.lst (W.map D.str)] = some (.int (W.length : Nat)) := by
    show some (D.int (W.map D.str).length) = _
    rw [List.length_map]
  have lent : lenD [.str t] = some (.int (t.length : Nat)) := rfl
  generalize hrow : D.lst [.int (n0 : Nat), .int (n1 : Nat), .int (n2 : Nat), .int (n3 : Nat), .int (n4 : Nat), .int (n5 : Nat)] = row
  have r0 : ixD row (.int 0) = some (.int (n0 : Nat)) := by rw [← hrow]; rfl
  have r1 : ixD row (.int 1) = some (.int (n1 : Nat)) := by rw [← hrow]; rfl
  have r2 : ixD row (.int 2) = some (.int (n2 : Nat)) := by rw [← hrow]; rfl
  have r3 : ixD row (.int 3) = some (.int (n3 : Nat)) := by rw [← hrow]; rfl
  have r4 : ixD row (.int 4) = some (.int (n4 : Nat)) := by rw [← hrow]; rfl
  have r5 : ixD row (.int 5) = some (.int (n5 : Nat)) := by rw [← hrow]; rfl
  clear hrow
  -- the six first lines
  have pre : ∀ r, (∀ e1, e1 = C0 t row L W p o s n0 → ev_changed [.fz (.str t), .fz row, .no, .no, .no, .no, .no, .no, .no, .no] = r) → ev_changed [.fz (.str t), .fz row, .no, .no, .no, .no, .no, .no, .no, .no] = r := fun r h => h _ rfl
  have go : ∀ (t' : PySem.Str) (e' : En), muts [false, false] e' = some [] → t'.length ≤ 3 * t.length + 100 → ev_changed [.fz (.str t), .fz row, .no, .no, .no, .no, .no, .no, .no, .no] = .ok (.rt (.str t')) e' → ∃ t', den_changed [.str t, row] = .ok (.str t') [] ∧ t'.length ≤ 3 * t.length + 100 := fun t' e' hm hl h => ⟨t', runD_ok rfl h hm, hl⟩
  have ri : ∀ {E : En} {i : Int} {n : Nat}, E[1]? = some (.fz row) → ixD row (.int i) = some (.int (n : Nat)) → eBi intD (aCons (oVa (eOp ixD (oVar 1) (oVa (eCst (.int i))))) aNil) E = .ok (.int (n : Nat)) E := fun h1 h2 => v_bi1 (oo_va (v_op (oo_fz h1) (oo_va v_cst) h2)) rfl
  have q1 : (sNew 2 (eMt "str" splitD (oVar 0) (aCons (oVa (eCst (.str "\n"))) aNil))) [.fz (.str t), .fz row, .no, .no, .no, .no, .no, .no, .no, .no] = .ok .nx [.fz (.str t), .fz row, .ow false (.lst (L.map D.str)), .no, .no, .no, .no, .no, .no, .no] :=
    s_new (v_mt1 (oo_fz rfl) (oo_va v_cst) rfl hsD) rfl rfl
  have q2 : (sSet 3 (eOp modD (oVa (eBi intD (aCons (oVa (eOp ixD (oVar 1) (oVa (eCst (.int 1))))) aNil))) (oVa (eBi lenD (aCons (oVar 2) aNil))))) [.fz (.str t), .fz row, .ow false (.lst (L.map D.str)), .no, .no, .no, .no, .no, .no, .no] = .ok .nx [.fz (.str t), .fz row, .ow false (.lst (L.map D.str)), .fz (.int (p : Nat)), .no, .no, .no, .no, .no, .no] := by
    rw [← hpe]
    exact s_set (v_op (oo_va (ri rfl r1)) (oo_va (v_bi1 (oo_ow rfl) lenL)) (modN n1 _ hne)) rfl rfl
  have q3 : (sSet 4 (eOp modD (oVa (eBi intD (aCons (oVa (eOp ixD (oVar 1) (oVa (eCst (.int 2))))) aNil))) (oVa (eBi lenD (aCons (oVar 2) aNil))))) [.fz (.str t), .fz row, .ow false (.lst (L.map D.str)), .fz (.int (p : Nat)), .no, .no, .no, .no, .no, .no] = .ok .nx [.fz (.str t), .fz row, .ow false (.lst (L.map D.str)), .fz (.int (p : Nat)), .fz (.int (o : Nat)), .no, .no, .no, .no, .no] := by
    rw [← hoe]
    exact s_set (v_op (oo_va (ri rfl r2)) (oo_va (v_bi1 (oo_ow rfl) lenL)) (modN n2 _ hne)) rfl rfl
  have q4 : (sNew 5 (eMt "str" splitD (oVa (eOp ixD (oVar 2) (oVar 3))) (aCons (oVa (eCst (.str " "))) aNil))) [.fz (.str t), .fz row, .ow false (.lst (L.map D.str)), .fz (.int (p : Nat)), .fz (.int (o : Nat)), .no, .no, .no, .no, .no] = .ok .nx [.fz (.str t), .fz row, .ow false (.lst (L.map D.str)), .fz (.int (p : Nat)), .fz (.int (o : Nat)), .ow false (.lst (W.map D.str)), .no, .no, .no, .no] :=
    s_new (v_mt1 (oo_va (v_op (oo_ow rfl) (oo_fz rfl) (ix_L lp))) (oo_va v_cst) rfl hsX) rfl rfl
  have q5 : (sSet 6 (eOp modD (oVa (eBi intD (aCons (oVa (eOp ixD (oVar 1) (oVa (eCst (.int 3))))) aNil))) (oVa (eBi lenD (aCons (oVar 5) aNil))))) [.fz (.str t), .fz row, .ow false (.lst (L.map D.str)), .fz (.int (p : Nat)), .fz (.int (o : Nat)), .ow false (.lst (W.map D.str)), .no, .no, .no, .no] = .ok .nx [.fz (.str t), .fz row, .ow false (.lst (L.map D.str)), .fz (.int (p : Nat)), .fz (.int (o : Nat)), .ow false (.lst (W.map D.str)), .fz (.int (s : Nat)), .no, .no, .no] := by
    rw [← hse]
    exact s_set (v_op (oo_va (ri rfl r3)) (oo_va (v_bi1 (oo_ow rfl) lenW)) (modN n3 _ hnW)) rfl rfl
  have q6 : (sSet 7 (eOp modD (oVa (eBi intD (aCons (oVa (eOp ixD (oVar 1) (oVa (eCst (.int 0))))) aNil))) (oVa (eCst (.int 14))))) [.fz (.str t), .fz row, .ow false (.lst (L.map D.str)), .fz (.int (p : Nat)), .fz (.int (o : Nat)), .ow false (.lst (W.map D.str)), .fz (.int (s : Nat)), .no, .no, .no] = .ok .nx (C0 t row L W p o s n0) := by
    have e : n0 % 14 = n0 := Nat.mod_eq_of_lt h0
    have := modN n0 14 (by decide)
    rw [e] at this
    exact s_set (v_op (oo_va (ri rfl r0)) (oo_va v_cst) this) rfl rfl
  have k7 : ∀ k, (C0 t row L W p o s k)[7]? = some (.fz (.int (k : Nat))) := fun _ => rfl
  have cL := wt_cnt L
  have slp := sl_to L p
  have slf := sl_from L p (by omega)
  have slp1 := sl_to L (p + 1)
  have slf1 := sl_from L (p + 1) (by omega)
  have cut := wt_cut L p
  have drp := wt_drop L p (p + 1) (by omega)
  have ep1 : ∀ {E : En}, E[3]? = some (.fz (.int (p : Nat))) → (eOp addD (oVar 3) (oVa (eCst (.int 1)))) E = .ok (.int ((p + 1 : Nat) : Int)) E := fun h => v_op (oo_fz h) (oo_va v_cst) (addD_int _ _)
  have wslp := sl_to W s
  have wslf := sl_from W s (by omega)
  have wslf1 := sl_from W (s + 1) (by omega)
  have wcut := wt_cut W s
  have wdrp := wt_drop W s (s + 1) (by omega)
  have es1 : ∀ {E : En}, E[6]? = some (.fz (.int (s : Nat))) → (eOp addD (oVar 6) (oVa (eCst (.int 1)))) E = .ok (.int ((s + 1 : Nat) : Int)) E := fun h => v_op (oo_fz h) (oo_va v_cst) (addD_int _ _)
  have ex : ∀ {E : En}, E[1]? = some (.fz row) → eBi intD (aCons (oVa (eOp addD (oVa (eOp mulI (oVa (eOp ixD (oVar 1) (oVa (eCst (.int 1))))) (oVa (eCst (.int 60))))) (oVa (eOp ixD (oVar 1) (oVa (eCst (.int 2))))))) aNil) E = .ok (.int ((n1 * 60 + n2 : Nat) : Int)) E := fun h => by
    have mm : mulI (.int (n1 : Nat)) (.int 60) = some (.int ((n1 * 60 : Nat) : Int)) := mulI_r (by decide)
    exact v_bi1 (oo_va (v_op (oo_va (v_op (oo_va (v_op (oo_fz h) (oo_va v_cst) r1)) (oo_va v_cst) mm)) (oo_va (v_op (oo_fz h) (oo_va v_cst) r2)) (addD_int _ _))) rfl
  have elt : ∀ {E : En}, E[0]? = some (.fz (.str t)) → (eOp addD (oVa (eBi lenD (aCons (oVar 0) aNil))) (oVa (eCst (.int 1)))) E = .ok (.int ((t.length + 1 : Nat) : Int)) E := fun h => v_op (oo_va (v_bi1 (oo_fz h) lent)) (oo_va v_cst) (addD_int _ _)
  have cs := fun lo hi => cutS_le t lo hi
  have start : ∀ {r}, ev_tail (C0 t row L W p o s n0) = r → ev_changed [.fz (.str t), .fz row, .no, .no, .no, .no, .no, .no, .no, .no] = r := fun h => by
    unfold ev_changed
    exact (run_seq q1).trans ((run_seq q2).trans ((run_seq q3).trans ((run_seq q4).trans ((run_seq q5).trans ((run_seq q6).trans h)))))
  have h1l : (1 : Nat) ≤ sizeLine := by omega
  have jlen := fun l => wt_join "\n" len1_nl l
  have jlenW := fun l => wt_join " " len1_sp l
  have cc : n0 = 0 ∨ n0 = 1 ∨ n0 = 2 ∨ n0 = 3 ∨ n0 = 4 ∨ n0 = 5 ∨ n0 = 6 ∨ n0 = 7 ∨ n0 = 8 ∨ n0 = 9 ∨ n0 = 10 ∨ n0 = 11 ∨ n0 = 12 ∨ n0 = 13 := by omega
  clear q1 q2 q3 q4 q5 q6 pre
  have fin : ∀ {L' W' : List PySem.Str} {k : Nat}, p < L'.length → wt L' + wt W' ≤ 3 * t.length + 90 → ev_tail (C0 t row L W p o s n0) = (sSeq (sPut 2 (eVar 3) (eJoin " " (oVar 5))) (sRet (eJoin "\n" (oVar 2)))) (C0 t row L' W' p o s k) → ∃ t', den_changed [.str t, row] = .ok (.str t') [] ∧ t'.length ≤ 3 * t.length + 100 := fun {L' W' k} hp' hw' hh => by
    obtain ⟨t', e', g1, g2, g3⟩ := fin_ok t row L' W' p o s k hp' (by omega)
    exact go t' e' g2 (by omega) (start (hh.trans g1))
  have put : ∀ {x : PySem.Str} {k : Nat} {m : M D}, m (C0 t row L W p o s k) = .ok (.str x) (C0 t row L W p o s k) → sPut 5 (eVar 6) m (C0 t row L W p o s k) = .ok .nx (C0 t row L (W.set s x) p o s k) := fun {x k m} hm => by
    have := s_put (E := C0 t row L W p o s k) (i := 5) (j := s) (m := m) (mk := eVar 6) (q := false) (ds := W.map D.str) hm (v_var rfl) rfl (by rw [List.length_map]; exact hs)
    rw [this, show ((W.map D.str).set s (D.str x)) = (W.set s x).map D.str by rw [List.map_set]]
    rfl
  have low : ∀ k : Nat, (eBi strD (aCons (oVa (eOp modD (oVa (eOp mulI (oVa (eBi intD (aCons (oVa (eOp ixD (oVar 1) (oVa (eCst (.int 4))))) aNil))) (oVa (eCst (.int 7))))) (oVa (eCst (.int 400))))) aNil)) (C0 t row L W p o s k) = .ok (.str (numS (n4 * 7 % 400))) (C0 t row L W p o s k) := fun k => by
    have mm : mulI (.int (n4 : Nat)) (.int 7) = some (.int ((n4 * 7 : Nat) : Int)) := mulI_r (by decide)
    exact v_bi1 (oo_va (v_op (oo_va (v_op (oo_va (ri rfl r4)) (oo_va v_cst) mm)) (oo_va v_cst) (modN (n4 * 7) 400 (by decide)))) (str_num (by omega))
  have lowl : (numS (n4 * 7 % 400)).length ≤ 3 := numS_len (by decide) (by omega)
  rcases cc with rfl | rfl | rfl | rfl | rfl | rfl | rfl | rfl | rfl | rfl | rfl | rfl | rfl | rfl
  · refine go (Txt.join "\n" (L.take p ++ L.drop (p + 1))) (C0 t row L W p o s 0) rfl ?_ (start (hit (k7 0) rfl (run_ret (v_join (oo_va (v_op (oo_va (v_sl (oo_ow rfl) v_no (v_so (v_var rfl)) slp)) (oo_va (v_sl (oo_ow rfl) (v_so (ep1 rfl)) v_no slf1)) (add_LL addD (.inl rfl) _ _ (by omega)))) (jn_D "\n" len1_nl _ (by rw [wt_app]; omega))))))
    have := jlen (L.take p ++ L.drop (p + 1))
    rw [wt_app] at this
    omega
  · refine go (Txt.join "\n" ((L.take p ++ [Y]) ++ L.drop p)) (C0 t row L W p o s 1) rfl ?_ (start (sk (k7 1) rfl (hit (k7 1) rfl (run_ret (v_join (oo_va (v_op (oo_va (v_op (oo_va (v_sl (oo_ow rfl) v_no (v_so (v_var rfl)) slp)) (oo_va (v_lst (oa_cons (v_op (oo_ow rfl) (oo_fz rfl) (ix_L lo)) oa_nil) h1l)) (add_LL addD (.inl rfl) (L.take p) [Y] (by rw [wt_one]; omega)))) (oo_va (v_sl (oo_ow rfl) (v_so (v_var rfl)) v_no slf)) (add_LL addD (.inl rfl) (L.take p ++ [Y]) (L.drop p) (by rw [wt_app, wt_one]; omega)))) (jn_D "\n" len1_nl _ (by rw [wt_app, wt_app, wt_one]; omega)))))))
    have := jlen ((L.take p ++ [Y]) ++ L.drop p)
    rw [wt_app, wt_app, wt_one] at this
    omega
  · have w1 := wt_set Y L p
    have w2 := wt_set X (L.set p Y) o
    have e8 : (sSet 8 (eOp ixD (oVar 2) (oVar 3))) (C0 t row L W p o s 2) = .ok .nx ((C0 t row L W p o s 2).set 8 (.fz (.str X))) := s_set (v_op (oo_ow rfl) (oo_fz rfl) (ix_L lp)) rfl rfl
    have p1 := s_put (E := (C0 t row L W p o s 2).set 8 (.fz (.str X))) (i := 2) (j := p) (m := eOp ixD (oVar 2) (oVar 4)) (mk := eVar 3) (q := false) (ds := L.map D.str) (v_op (oo_ow rfl) (oo_fz rfl) (ix_L lo)) (v_var rfl) rfl (by rw [List.length_map]; exact hp)
    have p2 := s_put (E := ((C0 t row L W p o s 2).set 8 (.fz (.str X))).set 2 (.ow false (.lst ((L.map D.str).set p (D.str Y))))) (i := 2) (j := o) (m := eVar 8) (mk := eVar 4) (q := false) (d := .str X) (ds := (L.map D.str).set p (D.str Y)) (v_var rfl) (v_var rfl) rfl (by rw [List.length_set, List.length_map]; exact ho)
    have em : (((L.map D.str).set p (D.str Y)).set o (D.str X)) = ((L.set p Y).set o X).map D.str := by rw [List.map_set, List.map_set]
    rw [em] at p2
    refine go (Txt.join "\n" ((L.set p Y).set o X)) _ rfl ?_ (start (sk (k7 2) rfl (sk (k7 2) rfl (hit (k7 2) rfl ((run_seq e8).trans ((run_seq p1).trans ((run_seq p2).trans (run_ret (v_join (oo_ow rfl) (jn_D "\n" len1_nl _ (by omega)))))))))))
    have := jlen ((L.set p Y).set o X)
    omega
  · have lY : (("\n" : PySem.Str) ++ Y).length = Y.length + 1 := by rw [DP.len_cat, len1_nl, Nat.add_comm]
    have all : ∀ x ∈ m3 Y, x.length ≤ Y.length + 3 := fun x hx => by
      unfold m3 at hx
      simp only [List.mem_cons, List.not_mem_nil, or_false] at hx
      have c1 : ("\n\n" : PySem.Str).length = 2 := by decide +kernel
      have c2 : ("\n7" : PySem.Str).length = 2 := by decide +kernel
      have c3 : (" 7" : PySem.Str).length = 2 := by decide +kernel
      have c4 := len1_nl
      have c5 := len1_sp
      rcases hx with rfl | rfl | rfl | rfl | rfl | rfl <;> omega
    obtain ⟨x, hx, hxl⟩ := pick (j := n3 % 6) all (by show n3 % 6 < 6; omega)
    have aY : addD (.str "\n") (.str Y) = some (.str ("\n" ++ Y)) := addD_str (by rw [len1_nl]; omega)
    refine go (t ++ x) (C0 t row L W p o s 3) rfl (by rw [DP.len_cat]; omega) (start (sk (k7 3) rfl (sk (k7 3) rfl (sk (k7 3) rfl (hit (k7 3) rfl (run_ret (v_op (oo_fz rfl) (oo_va (v_op (oo_va (v_lst (ds := (m3 Y).map D.str) (oa_cons v_cst (oa_cons v_cst (oa_cons v_cst (oa_cons (v_op (oo_va v_cst) (oo_va (v_op (oo_ow rfl) (oo_fz rfl) (ix_L lo))) aY) (oa_cons v_cst (oa_cons v_cst oa_nil)))))) (by show 6 ≤ sizeLine; omega))) (oo_va (v_op (oo_va (ri rfl r3)) (oo_va v_cst) (modN n3 6 (by decide)))) (ix_L hx))) (addD_str (by omega)))))))))
  · by_cases h2 : n4 % 2 = 0
    · have m2 := modN n4 2 (by decide)
      rw [h2] at m2
      refine go (Txt.join "\n" (L.take (p + 1))) (C0 t row L W p o s 4) rfl ?_ (start (sk (k7 4) rfl (sk (k7 4) rfl (sk (k7 4) rfl (sk (k7 4) rfl (ifT (b_andt (kc (k7 4)) (b_E (v_op (oo_va (v_op (oo_va (ri rfl r4)) (oo_va v_cst) m2)) (oo_va v_cst) (eqD_int _ _)))) (run_ret (v_join (oo_va (v_sl (oo_ow rfl) v_no (v_so (ep1 rfl)) slp1)) (jn_D "\n" len1_nl _ (by have := wt_cut L (p + 1); omega))))))))))
      have := jlen (L.take (p + 1))
      have := wt_cut L (p + 1)
      omega
    · have m2 := modN n4 2 (by decide)
      rw [show n4 % 2 = 1 by omega] at m2
      exact go (L2.cutS t none (some (((n1 * 60 + n2) % (t.length + 1) : Nat) : Int))) (C0 t row L W p o s 4) rfl (by have := cs none (some (((n1 * 60 + n2) % (t.length + 1) : Nat) : Int)); omega) (start (sk (k7 4) rfl (sk (k7 4) rfl (sk (k7 4) rfl (sk (k7 4) rfl (ifF (b_andt (kc (k7 4)) (b_E (v_op (oo_va (v_op (oo_va (ri rfl r4)) (oo_va v_cst) m2)) (oo_va v_cst) (eqD_int _ _)))) (hit (k7 4) rfl (run_ret (v_sl (oo_fz rfl) v_no (v_so (v_op (oo_va (ex rfl)) (oo_va (elt rfl)) (modN _ _ (by omega)))) rfl)))))))))
  · obtain ⟨x, hx, hxl⟩ := pick (l := m5) (j := n3 % 7) (n := 1) (by decide +kernel) (by show n3 % 7 < 7; omega)
    have c1 := cs none (some (((n1 * 60 + n2) % (t.length + 1) : Nat) : Int))
    have c2 := cs (some ((((n1 * 60 + n2) % (t.length + 1) : Nat) : Int) + ((n4 % 2 : Nat) : Int))) none
    have e9 : (sSet 9 (eOp modD (oVa (eBi intD (aCons (oVa (eOp addD (oVa (eOp mulI (oVa (eOp ixD (oVar 1) (oVa (eCst (.int 1))))) (oVa (eCst (.int 60))))) (oVa (eOp ixD (oVar 1) (oVa (eCst (.int 2))))))) aNil))) (oVa (eOp addD (oVa (eBi lenD (aCons (oVar 0) aNil))) (oVa (eCst (.int 1))))))) (C0 t row L W p o s 5) = .ok .nx ((C0 t row L W p o s 5).set 9 (.fz (.int (((n1 * 60 + n2) % (t.length + 1) : Nat) : Int)))) := s_set (v_op (oo_va (ex rfl)) (oo_va (elt rfl)) (modN _ _ (by omega))) rfl rfl
    refine go ((L2.cutS t none (some (((n1 * 60 + n2) % (t.length + 1) : Nat) : Int)) ++ x) ++ L2.cutS t (some ((((n1 * 60 + n2) % (t.length + 1) : Nat) : Int) + ((n4 % 2 : Nat) : Int))) none) _ rfl (by rw [DP.len_cat, DP.len_cat]; omega) (start (sk (k7 5) rfl (sk (k7 5) rfl (sk (k7 5) rfl (sk (k7 5) rfl (sk4 (k7 5) rfl (sk (k7 5) rfl (hit (k7 5) rfl ((run_seq e9).trans (run_ret (v_op (oo_va (v_op (oo_va (v_sl (oo_fz rfl) v_no (v_so (v_var rfl)) rfl)) (oo_va (v_op (oo_va (v_lst (ds := m5.map D.str) (oa_cons v_cst (oa_cons v_cst (oa_cons v_cst (oa_cons v_cst (oa_cons v_cst (oa_cons v_cst (oa_cons v_cst oa_nil))))))) (by show 7 ≤ sizeLine; omega))) (oo_va (v_op (oo_va (ri rfl r3)) (oo_va v_cst) (modN n3 7 (by decide)))) (ix_L hx))) (addD_str (by omega)))) (oo_va (v_sl (oo_fz rfl) (v_so (v_op (oo_fz rfl) (oo_va (v_op (oo_va (ri rfl r4)) (oo_va v_cst) (modN n4 2 (by decide)))) (addD_int _ _))) v_no rfl)) (addD_str (by rw [DP.len_cat]; omega)))))))))))))
  · have wW : wt (W.take s ++ W.drop (s + 1)) ≤ wt W := by rw [wt_app]; omega
    exact fin (k := 6) (L' := L) (W' := W.take s ++ W.drop (s + 1)) hp (by omega) (sk (k7 6) rfl (sk (k7 6) rfl (sk (k7 6) rfl (sk (k7 6) rfl (sk4 (k7 6) rfl (sk (k7 6) rfl (sk (k7 6) rfl (sk (k7 6) rfl (run_seq (elT (k7 6) rfl (s_new (v_op (oo_va (v_sl (oo_ow rfl) v_no (v_so (v_var rfl)) wslp)) (oo_va (v_sl (oo_ow rfl) (v_so (es1 rfl)) v_no wslf1)) (add_LL addL (.inr rfl) _ _ (by omega))) rfl rfl)))))))))))
  · obtain ⟨j, hj, hje⟩ : ∃ j, j < W.length ∧ n4 % W.length = j := ⟨_, Nat.mod_lt _ hnW, rfl⟩
    have lj : W[j]? = some W[j] := List.getElem?_eq_getElem hj
    have mj := wt_mem (List.getElem_mem hj)
    generalize W[j] = V at lj mj
    have mm := modN n4 W.length hnW
    rw [hje] at mm
    have wW : wt ((W.take s ++ [V]) ++ W.drop s) ≤ 2 * wt W := by rw [wt_app, wt_app, wt_one]; omega
    exact fin (k := 7) (L' := L) (W' := (W.take s ++ [V]) ++ W.drop s) hp (by omega) (sk (k7 7) rfl (sk (k7 7) rfl (sk (k7 7) rfl (sk (k7 7) rfl (sk4 (k7 7) rfl (sk (k7 7) rfl (sk (k7 7) rfl (sk (k7 7) rfl (run_seq (elF (k7 7) rfl (elT (k7 7) rfl (s_new (v_op (oo_va (v_op (oo_va (v_sl (oo_ow rfl) v_no (v_so (v_var rfl)) wslp)) (oo_va (v_lst (oa_cons (v_op (oo_ow rfl) (oo_va (v_op (oo_va (ri rfl r4)) (oo_va (v_bi1 (oo_ow rfl) lenW)) mm)) (ix_L lj)) oa_nil) h1l)) (add_LL addD (.inl rfl) (W.take s) [V] (by rw [wt_one]; omega)))) (oo_va (v_sl (oo_ow rfl) (v_so (v_var rfl)) v_no wslf)) (add_LL addL (.inr rfl) (W.take s ++ [V]) (W.drop s) (by rw [wt_app, wt_one]; omega))) rfl rfl))))))))))))
  · by_cases hN : p + 1 < L.length
    · have lz : L[p + 1]? = some L[p + 1] := List.getElem?_eq_getElem hN
      have hZl : L[p + 1].length ≤ t.length := hmem _ (List.getElem_mem hN)
      generalize L[p + 1] = Z at lz hZl
      have hsZ := sp_D (l := Z) (by omega)
      have hwZ := wt_sp Z
      have lt : ltD (.int ((p + 1 : Nat) : Int)) (.int (L.length : Nat)) = some (.bl true) := by
        show some (D.bl (decide (((p + 1 : Nat) : Int) < (L.length : Nat)))) = _
        rw [decide_eq_true (by omega)]
      have slf2 := sl_from L (p + 2) (by omega)
      have cut1 := wt_cut L (p + 1)
      have drp2 := wt_drop L (p + 1) (p + 2) (by omega)
      have hl' : p < (L.take (p + 1) ++ L.drop (p + 2)).length := by rw [List.length_append, List.length_take, List.length_drop]; omega
      have a1 : (sNew 5 (eOp addL (oVar 5) (oVa (eMt "str" splitD (oVa (eOp ixD (oVar 2) (oVa (eOp addD (oVar 3) (oVa (eCst (.int 1))))))) (aCons (oVa (eCst (.str " "))) aNil))))) (C0 t row L W p o s 8) = .ok .nx (C0 t row L (W ++ sp Z) p o s 8) :=
        s_new (v_op (oo_ow rfl) (oo_va (v_mt1 (oo_va (v_op (oo_ow rfl) (oo_va (ep1 rfl)) (ix_L lz))) (oo_va v_cst) rfl hsZ)) (add_LL addL (.inr rfl) W (sp Z) (by omega))) rfl rfl
      have a2 : (sNew 2 (eOp addL (oVa (eSl (oVar 2) hNo (hSo (eOp addD (oVar 3) (oVa (eCst (.int 1))))))) (oVa (eSl (oVar 2) (hSo (eOp addD (oVar 3) (oVa (eCst (.int 2))))) hNo)))) (C0 t row L (W ++ sp Z) p o s 8) = .ok .nx (C0 t row (L.take (p + 1) ++ L.drop (p + 2)) (W ++ sp Z) p o s 8) :=
        s_new (v_op (oo_va (v_sl (oo_ow rfl) v_no (v_so (ep1 rfl)) slp1)) (oo_va (v_sl (oo_ow rfl) (v_so (i := ((p + 2 : Nat) : Int)) (v_op (oo_fz rfl) (oo_va v_cst) (addD_int _ _))) v_no slf2)) (add_LL addL (.inr rfl) _ _ (by omega))) rfl rfl
      exact fin (k := 8) (L' := L.take (p + 1) ++ L.drop (p + 2)) (W' := W ++ sp Z) hl' (by rw [wt_app, wt_app]; omega) (sk (k7 8) rfl (sk (k7 8) rfl (sk (k7 8) rfl (sk (k7 8) rfl (sk4 (k7 8) rfl (sk (k7 8) rfl (sk (k7 8) rfl (sk (k7 8) rfl (run_seq (elF (k7 8) rfl (elF (k7 8) rfl (run_ift (b_andt (kc (k7 8)) (b_E (v_op (oo_va (ep1 rfl)) (oo_va (v_bi1 (oo_ow rfl) lenL)) lt))) ((run_seq a1).trans a2)))))))))))))
    · have lt : ltD (.int ((p + 1 : Nat) : Int)) (.int (L.length : Nat)) = some (.bl false) := by
        show some (D.bl (decide (((p + 1 : Nat) : Int) < (L.length : Nat)))) = _
        rw [decide_eq_false (by omega)]
      have wW := wt_set (numS (n4 * 7 % 400)) W s
      exact fin (k := 8) (L' := L) (W' := W.set s (numS (n4 * 7 % 400))) hp (by omega) (sk (k7 8) rfl (sk (k7 8) rfl (sk (k7 8) rfl (sk (k7 8) rfl (sk4 (k7 8) rfl (sk (k7 8) rfl (sk (k7 8) rfl (sk (k7 8) rfl (run_seq (elF (k7 8) rfl (elF (k7 8) rfl (run_iff (b_andt (kc (k7 8)) (b_E (v_op (oo_va (ep1 rfl)) (oo_va (v_bi1 (oo_ow rfl) lenL)) lt))) (run_ift (b_E (v_op (oo_fz rfl) (oo_va v_cst) rfl)) (put (low 8)))))))))))))))
  · have wW : wt ((L.take p ++ [Txt.join " " (W.take s), Txt.join " " (W.drop s)]) ++ L.drop (p + 1)) ≤ 3 * t.length + 50 := by
      have j1 := jlenW (W.take s)
      have j2 := jlenW (W.drop s)
      rw [wt_app, wt_app]
      have : wt [Txt.join " " (W.take s), Txt.join " " (W.drop s)] = ((Txt.join " " (W.take s)).length + 1) + ((Txt.join " " (W.drop s)).length + 1) := by simp [wt]
      omega
    have wA : wt (L.take p ++ [Txt.join " " (W.take s), Txt.join " " (W.drop s)]) + wt (L.drop (p + 1)) ≤ 3 * t.length + 50 := by rw [← wt_app]; exact wW
    have wB : wt (L.take p) + wt [Txt.join " " (W.take s), Txt.join " " (W.drop s)] ≤ 3 * t.length + 50 := by rw [← wt_app]; omega
    refine go (Txt.join "\n" ((L.take p ++ [Txt.join " " (W.take s), Txt.join " " (W.drop s)]) ++ L.drop (p + 1))) (C0 t row L W p o s 9) rfl ?_ (start (sk (k7 9) rfl (sk (k7 9) rfl (sk (k7 9) rfl (sk (k7 9) rfl (sk4 (k7 9) rfl (sk (k7 9) rfl (sk (k7 9) rfl (hit (k7 9) rfl (run_ret (v_join (oo_va (v_op (oo_va (v_op (oo_va (v_sl (oo_ow rfl) v_no (v_so (v_var rfl)) slp)) (oo_va (v_lst (oa_cons (v_join (oo_va (v_sl (oo_ow rfl) v_no (v_so (v_var rfl)) wslp)) (jn_D " " len1_sp _ (by omega))) (oa_cons (v_join (oo_va (v_sl (oo_ow rfl) (v_so (v_var rfl)) v_no wslf)) (jn_D " " len1_sp _ (by omega))) oa_nil)) (by show 2 ≤ sizeLine; omega))) (add_LL addD (.inl rfl) (L.take p) [Txt.join " " (W.take s), Txt.join " " (W.drop s)] (by omega)))) (oo_va (v_sl (oo_ow rfl) (v_so (ep1 rfl)) v_no slf1)) (add_LL addD (.inl rfl) (L.take p ++ [Txt.join " " (W.take s), Txt.join " " (W.drop s)]) (L.drop (p + 1)) (by omega)))) (jn_D "\n" len1_nl _ (by omega)))))))))))))
    have := jlen ((L.take p ++ [Txt.join " " (W.take s), Txt.join " " (W.drop s)]) ++ L.drop (p + 1))
    omega
  · have wW := wt_set (numS (n4 * 7 % 400)) W s
    exact fin (k := 10) (L' := L) (W' := W.set s (numS (n4 * 7 % 400))) hp (by omega) (sk (k7 10) rfl (sk (k7 10) rfl (sk (k7 10) rfl (sk (k7 10) rfl (sk4 (k7 10) rfl (sk (k7 10) rfl (sk (k7 10) rfl (sk (k7 10) rfl (run_seq (elF (k7 10) rfl (elF (k7 10) rfl (run_iff (b_andf (kc (k7 10))) (run_ift (b_E (v_op (oo_fz rfl) (oo_va v_cst) rfl)) (put (low 10)))))))))))))))
  · have wW := wt_set (numS (n4 * 7 % 400)) W s
    exact fin (k := 11) (L' := L) (W' := W.set s (numS (n4 * 7 % 400))) hp (by omega) (sk (k7 11) rfl (sk (k7 11) rfl (sk (k7 11) rfl (sk (k7 11) rfl (sk4 (k7 11) rfl (sk (k7 11) rfl (sk (k7 11) rfl (sk (k7 11) rfl (run_seq (elF (k7 11) rfl (elF (k7 11) rfl (run_iff (b_andf (kc (k7 11))) (run_ift (b_E (v_op (oo_fz rfl) (oo_va v_cst) rfl)) (put (low 11)))))))))))))))
  · obtain ⟨x, hx, hxl⟩ := odd_ok n4 n5 h4 h5
    have wW := wt_set x W s
    exact fin (k := 12) (L' := L) (W' := W.set s x) hp (by omega) (sk (k7 12) rfl (sk (k7 12) rfl (sk (k7 12) rfl (sk (k7 12) rfl (sk4 (k7 12) rfl (sk (k7 12) rfl (sk (k7 12) rfl (sk (k7 12) rfl (run_seq (elF (k7 12) rfl (elF (k7 12) rfl (run_iff (b_andf (kc (k7 12))) (run_iff (b_E (v_op (oo_fz rfl) (oo_va v_cst) rfl)) (put (v_call2 (v_op (oo_fz rfl) (oo_va v_cst) r4) (v_op (oo_fz rfl) (oo_va v_cst) r5) hx)))))))))))))))
  · obtain ⟨x, hx, hxl⟩ := odd_ok n4 n5 h4 h5
    have wW := wt_set x W s
    exact fin (k := 13) (L' := L) (W' := W.set s x) hp (by omega) (sk (k7 13) rfl (sk (k7 13) rfl (sk (k7 13) rfl (sk (k7 13) rfl (sk4 (k7 13) rfl (sk (k7 13) rfl (sk (k7 13) rfl (sk (k7 13) rfl (run_seq (elF (k7 13) rfl (elF (k7 13) rfl (run_iff (b_andf (kc (k7 13))) (run_iff (b_E (v_op (oo_fz rfl) (oo_va v_cst) rfl)) (put (v_call2 (v_op (oo_fz rfl) (oo_va v_cst) r4) (v_op (oo_fz rfl) (oo_va v_cst) r5) hx)))))))))))))))
end K37m
set_option Elab.async false
set_option linter.all false
set_option maxRecDepth 100000
set_option maxHeartbeats 4000000
/-! NP: sizes; one turn of the law's loop; the loop. -/
namespace K37m
open PySem PySem.Spec DP
open K37 hiding R
open TL (tl numL joinL)

theorem numL_pos (n : Nat) : 0 < (numL n).length := by
  have h := num_is n
  cases hh : numL n with
  | nil => rw [hh] at h; cases h
  | cons a b => exact Nat.succ_pos _
theorem sepL_len (k : Nat) : (sepL k).length = 1 := by
  unfold sepL
  split <;> rfl
theorem Gl_ge : ∀ (l : List Nat) (k : Nat), l.length ≤ (Gl k l).length
  | [], _ => Nat.zero_le _
  | n :: r, k => by
    have := Gl_ge r (k + 1)
    have h2 := numL_pos n
    rw [Gl, List.length_append, List.length_append, sepL_len, List.length_cons]
    omega
theorem numL_le {n : Nat} (h : n ≤ 399) : (numL n).length ≤ 3 := by
  have := numS_len (n := n) (k := 3) (by decide) (by omega)
  rw [len_str, tl_numS] at this
  exact this
theorem Gl_le : ∀ (l : List Nat) (k : Nat), (∀ x ∈ l, x ≤ 399) → (Gl k l).length ≤ 4 * l.length
  | [], _, _ => Nat.zero_le _
  | n :: r, k, h => by
    have := Gl_le r (k + 1) fun x hx => h x (List.mem_cons_of_mem _ hx)
    have h2 := numL_le (h n List.mem_cons_self)
    rw [Gl, List.length_append, List.length_append, sepL_len, List.length_cons]
    omega
theorem wr_len (b : PySem.Str) (ns : List Nat) : (wr b ns).length = (hdS b ns.length).length + (Gl 0 ns).length := by
  rw [← wl_wr, wl, len_str, tl_gl, List.length_append, ← len_str]
theorem wr_ge (b : PySem.Str) (ns : List Nat) : ns.length ≤ (wr b ns).length := by
  have := Gl_ge ns 0
  rw [wr_len]
  omega
theorem wr_le {b : PySem.Str} (hb : isSide b = true) (ns : List Nat) (hn : ∀ x ∈ ns, x ≤ 399) (hl : ns.length ≤ 1001) : (wr b ns).length ≤ 4100 := by
  have h1 := Gl_le ns 0 hn
  have h2 := side_len hb
  have h3 := numS_len (n := ns.length) (k := 4) (by decide) (by omega)
  have h4 := join_len " " ["paper", b, numS ns.length]
  have h5 : ("paper" : PySem.Str).length = 5 := by decide +kernel
  have h6 := len1_sp
  rw [wr_len]
  unfold hdS
  simp only [List.map_cons, List.map_nil, List.sum_cons, List.sum_nil, List.length_cons, List.length_nil, h5, h6] at h4
  omega
theorem dgN : ∀ {out : List Int} {sz : List Nat}, Dg out (sz.map fun n : Nat => (n : Int)) → ∃ ns : List Nat, out = ns.map (fun n : Nat => (n : Int)) ∧ ns.length = sz.length ∧ ∀ i : Nat, ∀ s : Nat, sz[i]? = some s → ∃ n : Nat, ns[i]? = some n ∧ n < s
  | [], [], _ => ⟨[], rfl, rfl, fun i s h => by cases h⟩
  | [], _ :: _, h => h.elim
  | _ :: _, [], h => h.elim
  | d :: ds, s :: ss, h => by
    obtain ⟨⟨h0, h1⟩, h2⟩ := h
    obtain ⟨ns, e, l, q⟩ := dgN (out := ds) (sz := ss) h2
    refine ⟨d.toNat :: ns, by rw [List.map_cons, ← e, Int.toNat_of_nonneg h0], by rw [List.length_cons, List.length_cons, l], fun i => ?_⟩
    cases i with
    | zero =>
      intro x hx
      cases hx
      refine ⟨d.toNat, rfl, ?_⟩
      have : d < ((s : Nat) : Int) := h1
      omega
    | succ i => exact fun x hx => q i x hx
theorem ix_N {l : List Nat} {i n : Nat} (h : l[i]? = some n) : ixD (.lst (nsD l)) (.int (i : Nat)) = some (.int (n : Nat)) := ixL_ok (by unfold nsD; rw [List.getElem?_map, h]; rfl)
/-- the first cell read by a list of bounds -/
theorem row_ok (ns : List Int) (hl : ns.length ≤ 63) (i : Int) (h0 : 0 ≤ i) (h1 : i < 1000) (sz : List Nat) (hp : ∀ s ∈ sz, 0 < s ∧ s < 1073741824) (hs : sz.length < 1000) :
    ∃ c, ∃ ks : List Nat, den_cell [.scr ns, .int i] = .ok (.int c) [] ∧ den_digits [.int c, .lst (nsD sz)] = .ok (.lst (nsD ks)) [] ∧ ks.length = sz.length ∧ ∀ i : Nat, ∀ s : Nat, sz[i]? = some s → ∃ n : Nat, ks[i]? = some n ∧ n < s := by
  obtain ⟨c, hc⟩ := cell_ok ns hl i h0 h1
  obtain ⟨out, hD, hd⟩ := den_digits_ok c (sz.map fun n : Nat => (n : Int)) (fun s hx => by
    obtain ⟨n, hn, rfl⟩ := List.mem_map.mp hx
    have := hp n hn
    omega) (by rw [List.length_map]; exact hs)
  obtain ⟨ks, rfl, hk, q⟩ := dgN hD
  rw [List.map_map, List.map_map] at hd
  exact ⟨c, ks, hc, hd, hk, q⟩
def lim : Nat → Nat
  | 0 => 120000
  | 1 => 39000
  | 2 => 12900
  | _ => 4200
theorem neD_self (i : Int) : neD (.int i) (.int i) = some (.bl false) := by rw [neD_int]; simp
theorem neS_self (b : PySem.Str) : neD (.str b) (.str b) = some (.bl false) := by rw [neD_str]; simp
section
variable (ns : List Int) (s1 s2 s3 s4 s5 s6 : Sl)
abbrev E7 (s7 s8 s9 : Sl) : En := [.fz (.scr ns), s1, s2, s3, s4, s5, s6, s7, s8, s9, .no, .no, .no, .no, .no, .no]
theorem turn_ok (hl : ns.length ≤ 63) (k : Nat) (hk : k < 3) (t : PySem.Str) (ht : t.length ≤ 39000) (s9 : Sl) (h9 : nm s9 = true) : ∃ t' d, t'.length ≤ 3 * t.length + 100 ∧
    b1_law (E7 ns s1 s2 s3 s4 s5 s6 (.fz (.str t)) (.fz (.int (k : Nat))) s9) = .ok .nx (E7 ns s1 s2 s3 s4 s5 s6 (.fz (.str t')) (.fz (.int (k : Nat))) (.fz d)) := by
  have hB : BIG = 200000 := rfl
  have szl := sizeLine_eq
  obtain ⟨c, ks, hc, hd, hkl, hks⟩ := row_ok ns hl (2 + (k : Nat)) (by omega) (by omega) [14, 997, 997, 60, 60, 1200] (by decide) (by decide)
  obtain ⟨n0, g0, l0⟩ := hks 0 14 rfl
  obtain ⟨n1, g1, l1⟩ := hks 1 997 rfl
  obtain ⟨n2, g2, l2⟩ := hks 2 997 rfl
  obtain ⟨n3, g3, l3⟩ := hks 3 60 rfl
  obtain ⟨n4, g4, l4⟩ := hks 4 60 rfl
  obtain ⟨n5, g5, l5⟩ := hks 5 1200 rfl
  obtain rfl : ks = [n0, n1, n2, n3, n4, n5] := by
    have hkl' : ks.length = 6 := hkl
    match ks, hkl' with
    | [a0, a1, a2, a3, a4, a5], _ => cases g0; cases g1; cases g2; cases g3; cases g4; cases g5; rfl
  obtain ⟨t', hch, hl'⟩ := changed_ok t (by omega) n0 n1 n2 n3 n4 n5 l0 l1 l2 l3 l4 l5
  have htB : t'.length ≤ BIG := by omega
  have hr := lr_ok t' htB
  have q1 : (sSet 7 (eCall [false, false] den_changed (aCons (oVa (eVar 7)) (aCons (oVa (eCall [false, false] den_digits (aCons (oVa (eCall [false, false] den_cell (aCons (oVa (eVar 0)) (aCons (oVa (eOp addD (oVa (eCst (.int 2))) (oVar 8))) aNil)))) (aCons (oVa (nLst (aCons (oVa (eCst (.int 14))) (aCons (oVa (eCst (.int 997))) (aCons (oVa (eCst (.int 997))) (aCons (oVa (eCst (.int 60))) (aCons (oVa (eCst (.int 60))) (aCons (oVa (eCst (.int 1200))) aNil)))))))) aNil)))) aNil)))) (E7 ns s1 s2 s3 s4 s5 s6 (.fz (.str t)) (.fz (.int (k : Nat))) s9) = .ok .nx (E7 ns s1 s2 s3 s4 s5 s6 (.fz (.str t')) (.fz (.int (k : Nat))) s9) :=
    s_set (v_call2 (v_var rfl) (v_call2 (v_call2 (v_var rfl) (v_op (oo_va v_cst) (oo_fz rfl) (addD_int 2 (k : Nat))) hc) (v_lst (ds := nsD [14, 997, 997, 60, 60, 1200]) (oa_cons v_cst (oa_cons v_cst (oa_cons v_cst (oa_cons v_cst (oa_cons v_cst (oa_cons v_cst oa_nil)))))) (by show 6 ≤ sizeLine; omega)) hd) hch) rfl rfl
  refine ⟨t', ansL (RD t'), hl', ?_⟩
  unfold b1_law
  refine (run_seq q1).trans ((run_seq (s_set (v_call1 (v_var rfl) hr) rfl h9)).trans ?_)
  cases hR : RD t' with
  | inl j =>
    refine (run_seq (e1 := E7 ns s1 s2 s3 s4 s5 s6 (.fz (.str t')) (.fz (.int (k : Nat))) (.fz (ansL (.inl j)))) (run_iff (b_andt (b_E (v_op (oo_va (v_bi1 (oo_fz rfl) rfl)) (oo_va v_cst) (eqD_int 1 1))) (b_E (v_op (oo_va (v_call1 (v_var rfl) (refusal_ok htB hR))) (oo_va (v_op (oo_fz rfl) (oo_va v_cst) rfl)) (neD_self j)))) rfl)).trans ?_
    exact run_iff (b_andf (b_E (v_op (oo_va (v_bi1 (oo_fz rfl) rfl)) (oo_va v_cst) (eqD_int 1 2)))) rfl
  | inr p =>
    obtain ⟨b, out⟩ := p
    obtain ⟨hb, hw, hn⟩ := RD_inv hR
    have ho := wr_ge b out
    rw [← hw] at ho
    have rd := reads_ok htB hR (by omega)
    have wp := wp_ok hb true out hn (by omega)
    rw [← hw] at wp
    refine (run_seq (e1 := E7 ns s1 s2 s3 s4 s5 s6 (.fz (.str t')) (.fz (.int (k : Nat))) (.fz (ansL (.inr (b, out))))) (run_iff (b_andf (b_E (v_op (oo_va (v_bi1 (oo_fz rfl) rfl)) (oo_va v_cst) (eqD_int 2 1)))) rfl)).trans ?_
    exact run_iff (b_andt (b_E (v_op (oo_va (v_bi1 (oo_fz rfl) rfl)) (oo_va v_cst) (eqD_int 2 2))) (b_or (b_not (b_E (v_call3 (v_var rfl) (v_op (oo_fz rfl) (oo_va v_cst) rfl) (v_op (oo_fz rfl) (oo_va v_cst) rfl) rd))) (b_E (v_op (oo_va (v_call2 (v_op (oo_fz rfl) (oo_va v_cst) rfl) (v_op (oo_fz rfl) (oo_va v_cst) rfl) wp)) (oo_fz rfl) (neS_self t'))))) rfl
theorem turns (hl : ns.length ≤ 63) : ∀ (m k : Nat) (t : PySem.Str) (s8 s9 : Sl), k + m ≤ 3 → t.length ≤ lim m → nm s8 = true → nm s9 = true → ∃ s7' s8' s9', nm s7' = true ∧ nm s8' = true ∧ nm s9' = true ∧
    forL (gN 8) b1_law ((List.range' k m).map fun i : Nat => D.int (i : Int)) (E7 ns s1 s2 s3 s4 s5 s6 (.fz (.str t)) s8 s9) = .ok .nx (E7 ns s1 s2 s3 s4 s5 s6 s7' s8' s9')
  | 0, k, t, s8, s9, _, _, h8, h9 => ⟨_, _, _, rfl, h8, h9, rfl⟩
  | m + 1, k, t, s8, s9, hk, ht, h8, h9 => by
    have hm : t.length ≤ 39000 ∧ 3 * t.length + 100 ≤ lim m := by
      match m, ht with
      | 0, ht => have : t.length ≤ 39000 := ht; exact ⟨this, by show _ ≤ 120000; omega⟩
      | 1, ht => have : t.length ≤ 12900 := ht; exact ⟨by omega, by show _ ≤ 39000; omega⟩
      | 2, ht => have : t.length ≤ 4200 := ht; exact ⟨by omega, by show _ ≤ 12900; omega⟩
      | n + 3, ht => exact absurd hk (by omega)
    obtain ⟨t', d, hl', q⟩ := turn_ok ns s1 s2 s3 s4 s5 s6 hl k (by omega) t hm.1 s9 h9
    obtain ⟨a, b, c, ha, hb, hc, q2⟩ := turns hl m (k + 1) t' (.fz (.int (k : Nat))) (.fz d) (by omega) (by omega) rfl rfl
    refine ⟨a, b, c, ha, hb, hc, ?_⟩
    rw [List.range'_succ, List.map_cons, ← q2]
    exact forL_cons (gN_ok (free_of (i := 8) rfl h8)) q
end
end K37m
set_option Elab.async false
set_option linter.all false
set_option maxRecDepth 100000
set_option maxHeartbeats 4000000
/-! NQ: the law. -/
namespace K37m
open PySem PySem.Spec DP
open K37 hiding R
open TL (tl numL joinL)

theorem pow30 : powD (.int 10) (.int 30) = some (.int 1000000000000000000000000000000) := by kernel_rfl
theorem divN (a b : Nat) (h : (decide (0 < b) && decide (b < 1073741824)) = true) : divD (.int (a : Nat)) (.int (b : Nat)) = some (.int ((a / b : Nat) : Int)) := by
  rw [Bool.and_eq_true, decide_eq_true_eq, decide_eq_true_eq] at h
  rw [divD_ok (by rw [Bool.and_eq_true, decide_eq_true_eq, decide_eq_true_eq]; omega)]
  rfl
theorem ixD_L {l : List D} {i : Nat} {d : D} (h : l[i]? = some d) : ixD (.lst l) (.int (i : Nat)) = some d := ixL_ok h
theorem slT_to (l : List D) (p : Nat) : slD (.tup l) none (some (p : Int)) = some (.tup (l.take p)) := by
  show some (D.tup (cutL l none (some (p : Int)))) = _
  rw [cut_to]
theorem slT_from (l : List D) (p : Nat) (h : p ≤ l.length) : slD (.tup l) (some (p : Int)) none = some (.tup (l.drop p)) := by
  show some (D.tup (cutL l (some (p : Int)) none)) = _
  rw [cut_all _ _ h]
theorem nsD_take (l : List Nat) (p : Nat) : (nsD l).take p = nsD (l.take p) := by unfold nsD; rw [List.map_take]
theorem nsD_drop (l : List Nat) (p : Nat) : (nsD l).drop p = nsD (l.drop p) := by unfold nsD; rw [List.map_drop]
def menM (n0 x : Nat) : List Nat := [n0, n0, n0, n0, 19, 20, 21, 39, 40, 41, n0, x]
theorem menM_le {n0 x i : Nat} (h0 : n0 ≤ 1001) (hx : x ≤ 1001) (hi : i < 12) : ∃ m, (menM n0 x)[i]? = some m ∧ m ≤ 1001 := by
  have hl : i < (menM n0 x).length := hi
  refine ⟨(menM n0 x)[i], List.getElem?_eq_getElem hl, ?_⟩
  have := List.getElem_mem hl
  generalize (menM n0 x)[i] = y at *
  unfold menM at this
  simp only [List.mem_cons, List.not_mem_nil, or_false] at this
  omega
def wordsS : List PySem.Str := ["yes", "no", "taken", "never"]
def others : List PySem.Str := ["Yes", "", "no ", "takes", "maybe", "paper", "1", "yes no", "neve", "nevers"]
theorem word_at {i : Nat} (h : i < 4) : ∃ b, (wordsS.map D.str)[i]? = some (.str b) ∧ isSide b = true := by
  match i, h with
  | 0, _ => exact ⟨_, rfl, by decide +kernel⟩
  | 1, _ => exact ⟨_, rfl, by decide +kernel⟩
  | 2, _ => exact ⟨_, rfl, by decide +kernel⟩
  | 3, _ => exact ⟨_, rfl, by decide +kernel⟩
  | n + 4, h => exact absurd h (by omega)
theorem other_at {i : Nat} (h : i < 10) : ∃ b, (others.map D.str)[i]? = some (.str b) ∧ isSide b = false := by
  match i, h with
  | 0, _ => exact ⟨_, rfl, by decide +kernel⟩
  | 1, _ => exact ⟨_, rfl, by decide +kernel⟩
  | 2, _ => exact ⟨_, rfl, by decide +kernel⟩
  | 3, _ => exact ⟨_, rfl, by decide +kernel⟩
  | 4, _ => exact ⟨_, rfl, by decide +kernel⟩
  | 5, _ => exact ⟨_, rfl, by decide +kernel⟩
  | 6, _ => exact ⟨_, rfl, by decide +kernel⟩
  | 7, _ => exact ⟨_, rfl, by decide +kernel⟩
  | 8, _ => exact ⟨_, rfl, by decide +kernel⟩
  | 9, _ => exact ⟨_, rfl, by decide +kernel⟩
  | n + 10, h => exact absurd h (by omega)
theorem odd_at {i : Nat} (h : i < 14) : ∃ d, odds[i]? = some d ∧ badLet d := by
  have hl : i < odds.length := h
  exact ⟨odds[i], List.getElem?_eq_getElem hl, odd_all (List.getElem_mem hl)⟩
theorem last_at {i : Nat} (h : i < 3) : ∃ d, ([D.int 400, .int (-1), .non] : List D)[i]? = some d := ⟨_, List.getElem?_eq_getElem h⟩
theorem mulT_ok (d : D) (i : Nat) (h : i < 2) : ∃ tl : List D, mulT (.tup [d]) (.int (i : Nat)) = some (.tup tl) ∧ tl.length ≤ 1 := by
  match i, h with
  | 0, _ => exact ⟨[], rfl, by decide⟩
  | 1, _ => exact ⟨[d], rfl, by simp⟩
  | n + 2, h => exact absurd h (by omega)
def letF (cs : List Nat) (k : Nat) : Nat := (cs.getD (k % 60) 0 + k / 60 * 7) % 400
theorem getD_ix {cs : List Nat} {i : Nat} (h : i < cs.length) : cs[i]? = some (cs.getD i 0) := by
  rw [List.getD_eq_getElem?_getD, List.getElem?_eq_getElem h]
  rfl
abbrev EL (ns : List Int) (s1 s2 s3 s4 s5 s6 s7 s8 s9 s10 s11 s12 s13 s14 s15 : Sl) : En := [.fz (.scr ns), s1, s2, s3, s4, s5, s6, s7, s8, s9, s10, s11, s12, s13, s14, s15]
theorem y2_ok (ns : List Int) (s1 s2 : Sl) (cs : List Nat) (hc : cs.length = 60) (k : Nat) (s4 s5 s6 s7 s8 s9 s10 s11 s12 s13 s14 : Sl) : y2_law (EL ns s1 s2 (.fz (.lst (nsD cs))) s4 s5 s6 s7 s8 s9 s10 s11 s12 s13 s14 (.fz (.int (k : Nat)))) = .ok (.int (letF cs k : Nat)) (EL ns s1 s2 (.fz (.lst (nsD cs))) s4 s5 s6 s7 s8 s9 s10 s11 s12 s13 s14 (.fz (.int (k : Nat)))) := by
  have m60 := modN k 60 (by decide)
  have d60 := divN k 60 (by decide)
  have ix := ix_N (l := cs) (i := k % 60) (getD_ix (by rw [hc]; omega))
  have m7 : mulI (.int ((k / 60 : Nat) : Int)) (.int 7) = some (.int ((k / 60 * 7 : Nat) : Int)) := mulI_r (by decide)
  unfold y2_law
  exact v_op (oo_va (v_bi1 (oo_va (v_op (oo_va (v_op (oo_fz rfl) (oo_va (v_op (oo_fz rfl) (oo_va v_cst) m60)) ix)) (oo_va (v_op (oo_va (v_op (oo_fz rfl) (oo_va v_cst) d60)) (oo_va v_cst) m7)) (addD_int _ _))) rfl)) (oo_va v_cst) (modN (cs.getD (k % 60) 0 + k / 60 * 7) 400 (by decide))
theorem y2_all (ns : List Int) (s1 : Sl) (m : Nat) (cs : List Nat) (hc : cs.length = 60) (hm : m ≤ 1001) (s4 s5 s6 s7 s8 s9 s10 s11 s12 s13 s14 : Sl) : (nLc (iRg1 (aCons (oVar 2) aNil)) [15] (gN 15) bYes y2_law) (EL ns s1 (.fz (.int (m : Nat))) (.fz (.lst (nsD cs))) s4 s5 s6 s7 s8 s9 s10 s11 s12 s13 s14 .no) = .ok (.lst (nsD ((List.range' 0 m).map (letF cs)))) (EL ns s1 (.fz (.int (m : Nat))) (.fz (.lst (nsD cs))) s4 s5 s6 s7 s8 s9 s10 s11 s12 s13 s14 .no) := by
  have szl := sizeLine_eq
  have e : nsD ((List.range' 0 m).map (letF cs)) = (List.range' 0 m).map fun k : Nat => D.int (letF cs k : Nat) := by unfold nsD; rw [List.map_map]; rfl
  rw [e]
  refine nlc_ok (ds := (List.range' 0 m).map fun i : Nat => D.int (i : Int)) ?_ rfl (by rw [List.length_map, List.length_range']; omega) (lc_map (g := fun i : Nat => D.int (i : Int)) (f := fun k : Nat => D.int (letF cs k : Nat)) fun k _ => ⟨_, _, rfl, y2_ok ns s1 (.fz (.int (m : Nat))) cs hc k s4 s5 s6 s7 s8 s9 s10 s11 s12 s13 s14, rfl⟩)
  rw [← rngs_nat]
  exact rg1_ok (j := (m : Int)) (by unfold small; rw [decide_eq_true_eq]; omega)
theorem y3_all (ns : List Int) (s1 s2 s3 s4 s5 s6 s7 s8 s9 s10 s11 s12 s13 s14 : Sl) : (nLc (iRg1 (aCons (oVa (eCst (.int 60))) aNil)) [15] (gN 15) bYes y3_law) (EL ns s1 s2 s3 s4 s5 s6 s7 s8 s9 s10 s11 s12 s13 s14 .no) = .ok (.lst (nsD (List.replicate 60 400))) (EL ns s1 s2 s3 s4 s5 s6 s7 s8 s9 s10 s11 s12 s13 s14 .no) := by
  have szl := sizeLine_eq
  have e : nsD (List.replicate 60 400) = (List.range' 0 60).map fun _ : Nat => D.int 400 := rfl
  rw [e]
  refine nlc_ok (ds := (List.range' 0 60).map fun i : Nat => D.int (i : Int)) ?_ rfl (by rw [List.length_map, List.length_range']; omega) (lc_map (g := fun i : Nat => D.int (i : Int)) (f := fun _ : Nat => D.int 400) fun k _ => ⟨_, _, rfl, v_cst, rfl⟩)
  rw [← rngs_nat]
  exact rg1_ok (j := (60 : Int)) rfl
theorem iRgV {m : M D} {E : En} {j : Int} (h : m E = .ok (.int j) E) (hs : small j = true) : iRg1 (aCons (oVa m) aNil) E = .ok (rngs 0 j) E := by
  rw [iRg1_eq]
  simp [aCons, oVa, aNil, h, R.bind, rg1_ok hs]
theorem ex_seq {m n : M Fl} {e e1 : En} {ns : List Int} (h : m e = .ok .nx e1) (h2 : ∃ x, n e1 = .ok (.rt (.bl true)) (.fz (.scr ns) :: x)) : ∃ x, sSeq m n e = .ok (.rt (.bl true)) (.fz (.scr ns) :: x) := by
  obtain ⟨x, hx⟩ := h2
  exact ⟨x, (run_seq h).trans hx⟩
theorem ev_ok (ns : List Int) (hl : ns.length ≤ 63) : ∃ e, ev_law (EL ns .no .no .no .no .no .no .no .no .no .no .no .no .no .no .no) = .ok (.rt (.bl true)) (.fz (.scr ns) :: e) := by
  have hB : BIG = 200000 := rfl
  have szl := sizeLine_eq
  obtain ⟨c0, r, hc0, hd0, hrl, hr⟩ := row_ok ns hl 0 (by omega) (by omega) [61, 12, 4, 60, 30, 1001, 60] (by decide) (by decide)
  obtain ⟨n0, g0, l0⟩ := hr 0 61 rfl
  obtain ⟨n1, g1, l1⟩ := hr 1 12 rfl
  obtain ⟨n2, g2, l2⟩ := hr 2 4 rfl
  obtain ⟨n3, g3, l3⟩ := hr 3 60 rfl
  obtain ⟨n4, g4, l4⟩ := hr 4 30 rfl
  obtain ⟨n5, g5, l5⟩ := hr 5 1001 rfl
  obtain ⟨n6, g6, l6⟩ := hr 6 60 rfl
  have r0 := ix_N g0
  have r1 := ix_N g1
  have r2 := ix_N g2
  have r3 := ix_N g3
  have r4 := ix_N g4
  have r5 := ix_N g5
  have r6 := ix_N g6
  clear hr g0 g1 g2 g3 g4 g5 g6
  generalize hrow : D.lst (nsD r) = row at *
  obtain ⟨c1, cs, hc1, hd1, hcl, hcs⟩ := row_ok ns hl 1 (by omega) (by omega) (List.replicate 60 400) (by decide) (by decide)
  have hcl : cs.length = 60 := hcl
  have ri : ∀ {E : En} {i : Int} {n : Nat}, E[1]? = some (.fz row) → ixD row (.int i) = some (.int (n : Nat)) → eBi intD (aCons (oVa (eOp ixD (oVar 1) (oVa (eCst (.int i))))) aNil) E = .ok (.int (n : Nat)) E := fun h1 h2 => v_bi1 (oo_va (v_op (oo_fz h1) (oo_va v_cst) h2)) rfl
  -- row
  have q1 : (sSet 1 (eCall [false, false] den_digits (aCons (oVa (eCall [false, false] den_cell (aCons (oVa (eVar 0)) (aCons (oVa (eCst (.int 0))) aNil)))) (aCons (oVa (nLst (aCons (oVa (eCst (.int 61))) (aCons (oVa (eCst (.int 12))) (aCons (oVa (eCst (.int 4))) (aCons (oVa (eCst (.int 60))) (aCons (oVa (eCst (.int 30))) (aCons (oVa (eCst (.int 1001))) (aCons (oVa (eCst (.int 60))) aNil))))))))) aNil)))) (EL ns .no .no .no .no .no .no .no .no .no .no .no .no .no .no .no) = .ok .nx (EL ns (.fz row) .no .no .no .no .no .no .no .no .no .no .no .no .no .no) :=
    s_set (v_call2 (v_call2 (v_var rfl) v_cst hc0) (v_lst (ds := nsD [61, 12, 4, 60, 30, 1001, 60]) (oa_cons v_cst (oa_cons v_cst (oa_cons v_cst (oa_cons v_cst (oa_cons v_cst (oa_cons v_cst (oa_cons v_cst oa_nil))))))) (by show 7 ≤ sizeLine; omega)) hd0) rfl rfl
  -- many
  obtain ⟨x, hx, hxl⟩ : ∃ x, ([400, 1001] : List Nat)[n3 % 2]? = some x ∧ x ≤ 1001 := by
    have : n3 % 2 < 2 := Nat.mod_lt _ (by decide)
    match n3 % 2, this with
    | 0, _ => exact ⟨400, rfl, by decide⟩
    | 1, _ => exact ⟨1001, rfl, by decide⟩
    | n + 2, h => exact absurd h (by omega)
  obtain ⟨m, hm, hml⟩ := menM_le (n0 := n0) (x := x) (i := n1) (by omega) hxl l1
  have q2 : (sSet 2 (eOp ixD (oVa (nLst (aCons (oVa (eOp ixD (oVar 1) (oVa (eCst (.int 0))))) (aCons (oVa (eOp ixD (oVar 1) (oVa (eCst (.int 0))))) (aCons (oVa (eOp ixD (oVar 1) (oVa (eCst (.int 0))))) (aCons (oVa (eOp ixD (oVar 1) (oVa (eCst (.int 0))))) (aCons (oVa (eCst (.int 19))) (aCons (oVa (eCst (.int 20))) (aCons (oVa (eCst (.int 21))) (aCons (oVa (eCst (.int 39))) (aCons (oVa (eCst (.int 40))) (aCons (oVa (eCst (.int 41))) (aCons (oVa (eOp ixD (oVar 1) (oVa (eCst (.int 0))))) (aCons (oVa (eOp ixD (oVa (nLst (aCons (oVa (eCst (.int 400))) (aCons (oVa (eCst (.int 1001))) aNil)))) (oVa (eOp modD (oVa (eBi intD (aCons (oVa (eOp ixD (oVar 1) (oVa (eCst (.int 3))))) aNil))) (oVa (eCst (.int 2))))))) aNil)))))))))))))) (oVa (eOp ixD (oVar 1) (oVa (eCst (.int 1))))))) (EL ns (.fz row) .no .no .no .no .no .no .no .no .no .no .no .no .no .no) = .ok .nx (EL ns (.fz row) (.fz (.int (m : Nat))) .no .no .no .no .no .no .no .no .no .no .no .no .no) := by
    have z0 : (eOp ixD (oVar 1) (oVa (eCst (.int 0)))) (EL ns (.fz row) .no .no .no .no .no .no .no .no .no .no .no .no .no .no) = .ok (.int (n0 : Nat)) (EL ns (.fz row) .no .no .no .no .no .no .no .no .no .no .no .no .no .no) := v_op (oo_fz rfl) (oo_va v_cst) r0
    exact s_set (v_op (oo_va (v_lst (ds := nsD (menM n0 x)) (oa_cons z0 (oa_cons z0 (oa_cons z0 (oa_cons z0 (oa_cons v_cst (oa_cons v_cst (oa_cons v_cst (oa_cons v_cst (oa_cons v_cst (oa_cons v_cst (oa_cons z0 (oa_cons (v_op (oo_va (v_lst (ds := nsD [400, 1001]) (oa_cons v_cst (oa_cons v_cst oa_nil)) (by show 2 ≤ sizeLine; omega))) (oo_va (v_op (oo_va (ri rfl r3)) (oo_va v_cst) (modN n3 2 (by decide)))) (ix_N hx)) oa_nil)))))))))))) (by show 12 ≤ sizeLine; omega))) (oo_va (v_op (oo_fz rfl) (oo_va v_cst) r1)) (ix_N hm)) rfl rfl
  -- cells
  have q3 : (sSet 3 (eCall [false, false] den_digits (aCons (oVa (eCall [false, false] den_cell (aCons (oVa (eVar 0)) (aCons (oVa (eCst (.int 1))) aNil)))) (aCons (oVa (nLc (iRg1 (aCons (oVa (eCst (.int 60))) aNil)) [15] (gN 15) bYes y3_law)) aNil)))) (EL ns (.fz row) (.fz (.int (m : Nat))) .no .no .no .no .no .no .no .no .no .no .no .no .no) = .ok .nx (EL ns (.fz row) (.fz (.int (m : Nat))) (.fz (.lst (nsD cs))) .no .no .no .no .no .no .no .no .no .no .no .no) :=
    s_set (v_call2 (v_call2 (v_var rfl) v_cst hc1) (y3_all ns _ _ _ _ _ _ _ _ _ _ _ _ _ _) hd1) rfl rfl
  -- letters
  obtain ⟨L, hL⟩ : ∃ L, L = (List.range' 0 m).map (letF cs) := ⟨_, rfl⟩
  have hLl : L.length = m := by rw [hL, List.length_map, List.length_range']
  have hLn : ∀ y ∈ L, y ≤ 399 := by
    intro y hy
    rw [hL] at hy
    obtain ⟨k, _, rfl⟩ := List.mem_map.mp hy
    show _ % 400 ≤ 399
    omega
  have q4 : (sSet 4 (eBi tupD (aCons (oVa (nLc (iRg1 (aCons (oVar 2) aNil)) [15] (gN 15) bYes y2_law)) aNil))) (EL ns (.fz row) (.fz (.int (m : Nat))) (.fz (.lst (nsD cs))) .no .no .no .no .no .no .no .no .no .no .no .no) = .ok .nx (EL ns (.fz row) (.fz (.int (m : Nat))) (.fz (.lst (nsD cs))) (.fz (.tup (nsD L))) .no .no .no .no .no .no .no .no .no .no .no) := by
    rw [hL]
    exact s_set (v_bi1 (oo_va (y2_all ns (.fz row) m cs hcl hml .no .no .no .no .no .no .no .no .no .no .no)) rfl) rfl rfl
  clear hL
  -- word
  obtain ⟨b, hb, hbs⟩ := word_at l2
  have q5 : (sSet 5 (eOp ixD (oVa (nLst (aCons (oVa (eCst (.str "yes"))) (aCons (oVa (eCst (.str "no"))) (aCons (oVa (eCst (.str "taken"))) (aCons (oVa (eCst (.str "never"))) aNil)))))) (oVa (eOp ixD (oVar 1) (oVa (eCst (.int 2))))))) (EL ns (.fz row) (.fz (.int (m : Nat))) (.fz (.lst (nsD cs))) (.fz (.tup (nsD L))) .no .no .no .no .no .no .no .no .no .no .no) = .ok .nx (EL ns (.fz row) (.fz (.int (m : Nat))) (.fz (.lst (nsD cs))) (.fz (.tup (nsD L))) (.fz (.str b)) .no .no .no .no .no .no .no .no .no .no) :=
    s_set (v_op (oo_va (v_lst (ds := wordsS.map D.str) (oa_cons v_cst (oa_cons v_cst (oa_cons v_cst (oa_cons v_cst oa_nil)))) (by show 4 ≤ sizeLine; omega))) (oo_va (v_op (oo_fz rfl) (oo_va v_cst) r2)) (ixD_L hb)) rfl rfl
  -- text
  have hw := written_ok hbs L hLn (by omega)
  have hwl := wr_le hbs L hLn (by omega)
  have hg := good_ok hbs L hLn (by omega) (by omega)
  have n1nl := RD_nl hbs L hLn
  have n0nl := RD_nl0 hbs L
  generalize wr b L = t at *
  have q6 : (sSet 6 (eCall [false, false] den_written (aCons (oVa (eVar 5)) (aCons (oVa (eVar 4)) aNil)))) (EL ns (.fz row) (.fz (.int (m : Nat))) (.fz (.lst (nsD cs))) (.fz (.tup (nsD L))) (.fz (.str b)) .no .no .no .no .no .no .no .no .no .no) = .ok .nx (EL ns (.fz row) (.fz (.int (m : Nat))) (.fz (.lst (nsD cs))) (.fz (.tup (nsD L))) (.fz (.str b)) (.fz (.str t)) .no .no .no .no .no .no .no .no .no) :=
    s_set (v_call2 (v_var rfl) (v_var rfl) hw) rfl rfl
  unfold ev_law
  refine ex_seq q1 (ex_seq q2 (ex_seq q3 (ex_seq q4 (ex_seq q5 (ex_seq q6 ?_)))))
  clear q1 q2 q3 q4 q5 q6 hd0 hc0 hd1 hc1 hw hrow hcs
  -- good
  refine ex_seq (e1 := (EL ns (.fz row) (.fz (.int (m : Nat))) (.fz (.lst (nsD cs))) (.fz (.tup (nsD L))) (.fz (.str b)) (.fz (.str t)) .no .no .no .no .no .no .no .no .no)) (run_iff (b_not (b_E (v_call3 (v_var rfl) (v_var rfl) (v_var rfl) hg))) rfl) ?_
  -- the two refusals
  have u1 : t.length + 1 ≤ BIG := by omega
  have f1 := refusal_ok (t := t ++ "\n") (by rw [DP.len_cat, len1_nl]; omega) n1nl
  have f0 := refusal_ok (t := "\n" ++ t) (by rw [DP.len_cat, len1_nl]; omega) n0nl
  rw [hLl] at f1
  have a1 : addD (.str t) (.str "\n") = some (.str (t ++ "\n")) := addD_str (by rw [len1_nl]; omega)
  have a0 : addD (.str "\n") (.str t) = some (.str ("\n" ++ t)) := addD_str (by rw [len1_nl]; omega)
  have dv := divN (m + 19) 20 (by decide)
  have f0' : den_refusal [.str ("\n" ++ t)] = .ok (.int 1) [] := f0
  have a19 : addD (.int (m : Nat)) (.int 19) = some (.int ((m + 19 : Nat) : Int)) := addD_int _ _
  have a2 : addD (.int 2) (.int (((m + 19) / 20 : Nat) : Int)) = some (.int ((2 + (m + 19) / 20 : Nat) : Int)) := addD_int _ _
  refine ex_seq (e1 := (EL ns (.fz row) (.fz (.int (m : Nat))) (.fz (.lst (nsD cs))) (.fz (.tup (nsD L))) (.fz (.str b)) (.fz (.str t)) .no .no .no .no .no .no .no .no .no)) (run_iff (b_or (p := false) (q := false) (b_E (v_op (oo_va (v_call1 (v_op (oo_fz rfl) (oo_va v_cst) a1) f1)) (oo_va (v_op (oo_va v_cst) (oo_va (v_op (oo_va (v_op (oo_fz rfl) (oo_va v_cst) a19)) (oo_va v_cst) dv)) a2)) (neD_self _))) (b_E (v_op (oo_va (v_call1 (v_op (oo_va v_cst) (oo_fz rfl) a0) f0')) (oo_va v_cst) (neD_self 1)))) rfl) ?_
  clear f1 f0 a1 a0 dv n1nl n0nl u1
  refine ex_seq (s_set (v_var rfl) rfl rfl) ?_
  -- the turns
  have lm : t.length ≤ lim (1 + n3 % 3) := by
    have : n3 % 3 < 3 := Nat.mod_lt _ (by decide)
    match n3 % 3, this with
    | 0, _ => exact Nat.le_trans hwl (by decide)
    | 1, _ => exact Nat.le_trans hwl (by decide)
    | 2, _ => exact Nat.le_trans hwl (by decide)
    | n + 3, h => exact absurd h (by omega)
  obtain ⟨s7, s8, s9, h7, h8, h9, qt⟩ := turns ns (.fz row) (.fz (.int (m : Nat))) (.fz (.lst (nsD cs))) (.fz (.tup (nsD L))) (.fz (.str b)) (.fz (.str t)) hl (1 + n3 % 3) 0 t .no .no (by omega) lm rfl rfl
  rw [← rngs_nat] at qt
  refine ex_seq (for_ok (iRgV (j := ((1 + n3 % 3 : Nat) : Int)) (v_op (oo_va v_cst) (oo_va (v_op (oo_va (ri rfl r3)) (oo_va v_cst) (modN n3 3 (by decide)))) (addD_int _ _)) (by unfold small; rw [decide_eq_true_eq]; omega)) qt) ?_
  clear qt lm
  -- other
  obtain ⟨o, ho, hos⟩ := other_at (i := n4 % 10) (Nat.mod_lt _ (by decide))
  refine ex_seq (s_set (v_op (oo_va (v_lst (ds := others.map D.str) (oa_cons v_cst (oa_cons v_cst (oa_cons v_cst (oa_cons v_cst (oa_cons v_cst (oa_cons v_cst (oa_cons v_cst (oa_cons v_cst (oa_cons v_cst (oa_cons v_cst oa_nil)))))))))) (by show 10 ≤ sizeLine; omega))) (oo_va (v_op (oo_va (ri rfl r4)) (oo_va v_cst) (modN n4 10 (by decide)))) (ixD_L ho)) rfl rfl) ?_
  -- odd
  obtain ⟨d, hd, hdb⟩ := odd_at (i := n6 / 2 % 14) (Nat.mod_lt _ (by decide))
  refine ex_seq (s_set (v_op (oo_va (v_lst (ds := odds) (oa_cons (v_neg v_cst) (oa_cons v_cst (oa_cons (v_op (oo_va v_cst) (oo_va v_cst) pow30) (oa_cons (v_neg (v_op (oo_va v_cst) (oo_va v_cst) pow30)) (oa_cons v_cst (oa_cons (v_neg v_cst) (oa_cons v_cst (oa_cons v_cst (oa_cons v_cst (oa_cons v_cst (oa_cons (v_lst (oa_cons v_cst oa_nil) (by show 1 ≤ sizeLine; omega)) (oa_cons (v_tup (oa_cons v_cst oa_nil) (by show 1 ≤ sizeLine; omega)) (oa_cons v_cst (oa_cons v_cst oa_nil)))))))))))))) (by show 14 ≤ sizeLine; omega))) (oo_va (v_op (oo_va (v_op (oo_va (ri rfl r6)) (oo_va v_cst) (divN n6 2 (by decide)))) (oo_va v_cst) (modN (n6 / 2) 14 (by decide)))) (ixD_L hd)) rfl rfl) ?_
  -- last
  obtain ⟨w, hw⟩ := last_at (i := n4 / 10) (by omega)
  refine ex_seq (s_set (v_op (oo_va (v_lst (ds := [.int 400, .int (-1), .non]) (oa_cons v_cst (oa_cons (v_neg v_cst) (oa_cons v_cst oa_nil))) (by show 3 ≤ sizeLine; omega))) (oo_va (v_op (oo_va (ri rfl r4)) (oo_va v_cst) (divN n4 10 (by decide)))) (ixD_L hw)) rfl rfl) ?_
  -- place
  obtain ⟨p, hp, hpe⟩ : ∃ p, p ≤ m ∧ n5 % (m + 1) = p := ⟨_, Nat.le_of_lt_succ (Nat.mod_lt n5 (Nat.succ_pos m)), rfl⟩
  have mp := modN n5 (m + 1) (by omega)
  rw [hpe] at mp
  refine ex_seq (s_set (v_op (oo_va (ri rfl r5)) (oo_va (v_op (oo_fz rfl) (oo_va v_cst) (addD_int _ _))) mp) rfl rfl) ?_
  -- bad
  obtain ⟨tl, hm2, htl⟩ := mulT_ok w (n6 % 2) (Nat.mod_lt _ (by decide))
  have c1 := slT_to (nsD L) p
  have c2 := slT_from (nsD L) p (by rw [nsD_len]; omega)
  rw [nsD_take] at c1
  rw [nsD_drop] at c2
  have e1 := addD_tup (x := nsD (L.take p)) (y := [d]) (by rw [nsD_len, List.length_take, List.length_singleton]; omega)
  have e2 := addD_tup (x := nsD (L.take p) ++ [d]) (y := nsD (L.drop p)) (by rw [List.length_append, nsD_len, nsD_len, List.length_take, List.length_drop, List.length_singleton]; omega)
  have e3 := addD_tup (x := (nsD (L.take p) ++ [d]) ++ nsD (L.drop p)) (y := tl) (by rw [List.length_append, List.length_append, nsD_len, nsD_len, List.length_take, List.length_drop, List.length_singleton]; omega)
  have eb : ((nsD (L.take p) ++ [d]) ++ nsD (L.drop p)) ++ tl = nsD (L.take p) ++ d :: (nsD (L.drop p) ++ tl) := by simp
  rw [eb] at e3
  refine ex_seq (s_set (v_op (oo_va (v_op (oo_va (v_op (oo_va (v_sl (oo_fz rfl) v_no (v_so (v_var rfl)) c1)) (oo_va (v_tup (oa_cons (v_var rfl) oa_nil) (by show 1 ≤ sizeLine; omega))) e1)) (oo_va (v_sl (oo_fz rfl) (v_so (v_var rfl)) v_no c2)) e2)) (oo_va (v_op (oo_va (v_tup (oa_cons (v_var rfl) oa_nil) (by show 1 ≤ sizeLine; omega))) (oo_va (v_bi1 (oo_va (v_op (oo_va (ri rfl r6)) (oo_va v_cst) (modN n6 2 (by decide)))) rfl)) hm2)) e3) rfl rfl) ?_
  have hLp : ∀ y ∈ L.take p, y ≤ 399 := fun y hy => hLn y (List.mem_of_mem_take hy)
  have b1 := letter_ok hbs true (L.take p) hLp d (nsD (L.drop p) ++ tl) hdb
  have b2 := letter_ok hbs false (L.take p) hLp d (nsD (L.drop p) ++ tl) hdb
  generalize nsD (L.take p) ++ d :: (nsD (L.drop p) ++ tl) = B at *
  refine ex_seq (run_iff (b_or (b_not (b_E (v_call2 (v_var rfl) (v_var rfl) (side_ok hos _)))) (b_not (b_E (v_call2 (v_var rfl) (v_var rfl) (side_ok hos _))))) rfl) ?_
  refine ex_seq (run_iff (b_or (b_not (b_E (v_call3 (v_var rfl) (v_var rfl) (v_var rfl) b1))) (b_not (b_E (v_call3 (v_var rfl) (v_bi1 (oo_fz rfl) rfl) (v_var rfl) b2)))) rfl) ?_
  exact ⟨_, run_ret (v_call3 (v_var rfl) (v_var rfl) (v_var rfl) hg)⟩
theorem law_ok (ns : List Int) (hl : ns.length ≤ 63) : ∃ ms, den_law [.scr ns] = .ok (.bl true) ms := by
  obtain ⟨e, he⟩ := ev_ok ns hl
  refine ⟨[], ?_⟩
  show runD [false] 16 ev_law [.scr ns] = _
  exact runD_ok rfl he rfl
end K37m
theorem K37.math : ∀ ns : List Int, ns.length ≤ 63 → (∀ z ∈ ns, PySem.Builtin.Int.intBits z ≤ 1048576) → ∃ ms, K37.den_law [.scr ns] = .ok (.bl true) ms := fun ns hl _ => K37m.law_ok ns hl
open PySem PySem.W PySem.Calls PyProof.Rows
set_option maxHeartbeats 0 in
theorem PySem.Challenge.cw_onceread_k37_paper_notes_whole_holds : PySem.Challenge.rw_onceread_k37_paper_notes_whole.Holds := by
  w_on; o_law
  refine HandSHeadRun.head_any (r := OpenLaw.row PySem.Challenge.rw_onceread_k37_paper_notes_whole) (q := view (OpenLaw.row PySem.Challenge.rw_onceread_k37_paper_notes_whole).prog [33]) (H := K37.hk) (ob := K37.ob) (M := 40000) (loose := K37.names) (d := HandSHeadRun.topDef (OpenLaw.row PySem.Challenge.rw_onceread_k37_paper_notes_whole).prog 33) (kwd := []) K37.ob_eq
    (by kernel_rfl) (fun s => by kernel_rfl) K37.run (by kernel_rfl) (by kernel_rfl) (by kernel_rfl) (by rfl) (by first | assumption | decide +kernel) (by decide +kernel) ⟨rfl, rfl, rfl, rfl, rfl, by decide +kernel⟩ ?hw ?hc
  case hw => w_witness2
  case hc =>
    exact DP.walk_dpG (l := PySem.Challenge.rw_onceread_k37_paper_notes_whole) (k := 9) (x := "_law_script") rfl (by kernel_rfl) ⟨rfl, by decide, by decide⟩ (by kernel_rfl)
      (fun w K mg h KX G c => K37.ok_all (P := (PySem.Challenge.rw_onceread_k37_paper_notes_whole).prog) (w := w) KX G c) K37.math
