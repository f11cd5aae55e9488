import PyProof.Rows.All
import Wide.All
import OpenK.AllK
import Wide.FinOn
import HandS.ForMost
import HandS.ForExc
import HandS.Walk
import HandS.CallSlots
import HandS.Deep
import HandS.TupAny
import HandS.IsInst
import HandS.Wide
import KE.DataEq
import PyProof.StrOps2
import KE.GoesEnum
import HandS.More
import HandS.ExcInit
import KE.KExcInit
import HandS.ExcValue
import KE.KTryMore
import HandS.ExcField
import KE.KExcIs
import HandS.SortRule
import KE.KStateDown
import HandS.Defaults
import HandS.Head0
import HandS.Head1
import HandS.Head2
import HandS.HeadEnd
import HandS.HeadHook1
import HandS.HeadHook2
import HandS.Conv
import PySem.Challenge.RW_latehall_k75_rooms
set_option Elab.async false
set_option linter.all false
set_option maxRecDepth 100000
/-! La1: data without the heap, the memory of changeable things, and how both stand in an abstract heap. -/
namespace La
open PySem PySem.Spec L2

/-- data -/
inductive D where
  | non | bl (b : Bool) | int (i : Int) | str (x : Str) | tup (ds : List D) | lst (ds : List D)
  | dic (kvs : List (Key × D)) | dit (kvs : List (List Key × D)) | obj (l : Nat) | fn (x : Str) | scr (ns : List Int)
  | exn (c : Str) (fs : List (Str × D))

/-- what may change: by its number in the memory -/
inductive MO where
  | lst (ds : List D) | dic (kvs : List (Key × D)) | dit (kvs : List (List Key × D)) | ins (c : Str) (fs : List (Str × D))
abbrev Mem := List MO

/-- an exception: its class, its fields -/
structure Exn where
  cls : Str
  fs : List (Str × D)

/-- how an expression ends -/
inductive R (α : Type) where
  | ok (a : α) (M : Mem) | exc (x : Exn) (M : Mem) | bad
def R.bind {α β : Type} (r : R α) (k : α → Mem → R β) : R β := match r with
  | .ok a M => k a M
  | .exc x M => .exc x M
  | .bad => .bad
@[simp] theorem R.bind_ok {α β : Type} (a : α) (M : Mem) (k : α → Mem → R β) : (R.ok a M).bind k = k a M := rfl
@[simp] theorem R.bind_exc {α β : Type} (x : Exn) (M : Mem) (k : α → Mem → R β) : (R.exc x M : R α).bind k = .exc x M := rfl
@[simp] theorem R.bind_bad {α β : Type} (k : α → Mem → R β) : (R.bad : R α).bind k = .bad := rfl

abbrev Sd := List (Option D)
/-- how a statement ends -/
inductive F where
  | nx (sd : Sd) (M : Mem) | ret (d : D) (M : Mem) | brk (sd : Sd) (M : Mem) | cnt (sd : Sd) (M : Mem) | exc (x : Exn) (sd : Sd) (M : Mem) | bad

/-! ### data in an abstract heap -/
/-- a class by its name -/
def ClR (mg : Str → Option Value) (c : Str) (cv : Value) : Prop := mg c = some cv ∨ (mg c = none ∧ ∃ n, c = PySem.Str.ofString n ∧ cv = .type n)
/-- a caught exception, kept -/
def exB (a : Addr) (cv : Value) (da : Option Addr) : HO := .ext fun h => ∃ (oe : Obj) (vs : Array Value), h.get? a = some oe ∧ Zc cv da oe ∧ oe.data = .fields vs
section
variable (K : PySem.W.Frag) (mg : Str → Option Value) (G : Hp) (ι : List Addr)
mutual
inductive IsD : V → D → Prop
  | non : IsD .non .non
  | bl (b : Bool) : IsD (.bl b) (.bl b)
  | int (i : Int) : IsD (.int i) (.int i)
  | str (x : Str) : IsD (.str x) (.str x)
  | tup {a : Addr} {vs : List V} {ds : List D} : SqT K G a vs → IsDs vs ds → IsD (.ref a) (.tup ds)
  | lst {a : Addr} {vs : List V} {ds : List D} : G a = some (.lst vs) → IsDs vs ds → IsD (.ref a) (.lst ds)
  | scr {a : Addr} {ns : List Int} : SqL K G a (ns.map V.int) → IsD (.ref a) (.scr ns)
  | dic {a : Addr} {kvs : List (Key × V)} {ks : List (Key × D)} : G a = some (.dK kvs) → IsKs kvs ks → IsD (.ref a) (.dic ks)
  | dit {a : Addr} {kvs : List (List Key × V)} {ks : List (List Key × D)} : G a = some (.dT kvs) → IsTs kvs ks → IsD (.ref a) (.dit ks)
  | obj {a : Addr} {l : Nat} : ι[l]? = some a → IsD (.ref a) (.obj l)
  | fn {x : Str} {f : Addr} : mg x = some (.ref f) → IsD (.ref f) (.fn x)
  | exn {a : Addr} {c : Str} {cv : Value} : G a = some (exB a cv none) → ClR mg c cv → IsD (.ref a) (.exn c [])
  | exf {a da : Addr} {c : Str} {cv : Value} {vs : List (Str × V)} {fs : List (Str × D)} : G a = some (exB a cv (some da)) → ClR mg c cv → G da = some (.xd vs) → IsFs vs fs → IsD (.ref a) (.exn c fs)
inductive IsDs : List V → List D → Prop
  | nil : IsDs [] []
  | cons {v : V} {d : D} {vs : List V} {ds : List D} : IsD v d → IsDs vs ds → IsDs (v :: vs) (d :: ds)
inductive IsKs : List (Key × V) → List (Key × D) → Prop
  | nil : IsKs [] []
  | cons {k : Key} {v : V} {d : D} {vs : List (Key × V)} {ds : List (Key × D)} : IsD v d → IsKs vs ds → IsKs ((k, v) :: vs) ((k, d) :: ds)
inductive IsTs : List (List Key × V) → List (List Key × D) → Prop
  | nil : IsTs [] []
  | cons {k : List Key} {v : V} {d : D} {vs : List (List Key × V)} {ds : List (List Key × D)} : IsD v d → IsTs vs ds → IsTs ((k, v) :: vs) ((k, d) :: ds)
inductive IsFs : List (Str × V) → List (Str × D) → Prop
  | nil : IsFs [] []
  | cons {k : Str} {v : V} {d : D} {vs : List (Str × V)} {ds : List (Str × D)} : IsD v d → IsFs vs ds → IsFs ((k, v) :: vs) ((k, d) :: ds)
end
end

theorem Same.sql {K : PySem.W.Frag} {H H' : Hp} {a : Addr} {xs : List V} (e : Same H H') (h : SqL K H a xs) : SqL K H' a xs := e.seq h
theorem Same.sqt {K : PySem.W.Frag} {H H' : Hp} {a : Addr} {xs : List V} (e : Same H H') (h : SqT K H a xs) : SqT K H' a xs := by
  rcases h with (h | ⟨o, h⟩) | h
  · exact .inl (.inl (e _ _ h))
  · exact .inl (.inr ⟨o, e _ _ h⟩)
  · exact .inr h

/-- a list of addresses that went on -/
def Pre (ι ι' : List Addr) : Prop := ∀ (l : Nat) (a : Addr), ι[l]? = some a → ι'[l]? = some a
theorem Pre.refl (ι : List Addr) : Pre ι ι := fun _ _ h => h
theorem Pre.trans {a b c : List Addr} (h : Pre a b) (k : Pre b c) : Pre a c := fun l x e => k l x (h l x e)

section
variable {K : PySem.W.Frag} {mg : Str → Option Value} {G G' : Hp} {ι ι' : List Addr}
mutual
theorem IsD.mono (sg : Same G G') (p : Pre ι ι') : ∀ {d : D} {v : V}, IsD K mg G ι v d → IsD K mg G' ι' v d
  | .non, _, h => by cases h; exact .non
  | .bl b, _, h => by cases h; exact .bl b
  | .int i, _, h => by cases h; exact .int i
  | .str x, _, h => by cases h; exact .str x
  | .tup ds, _, h => by
    cases h with
    | tup a b => exact .tup (Same.sqt sg a) (IsDs.mono sg p b)
  | .lst ds, _, h => by
    cases h with
    | lst a b => exact .lst (sg _ _ a) (IsDs.mono sg p b)
  | .dic ks, _, h => by
    cases h with
    | dic a b => exact .dic (sg _ _ a) (IsKs.mono sg p b)
  | .dit ks, _, h => by
    cases h with
    | dit a b => exact .dit (sg _ _ a) (IsTs.mono sg p b)
  | .obj l, _, h => by
    cases h with
    | obj a => exact .obj (p _ _ a)
  | .fn x, _, h => by
    cases h with
    | fn a => exact .fn a
  | .scr ns, _, h => by
    cases h with
    | scr a => exact .scr (Same.sql sg a)
  | .exn c fs, _, h => by
    cases h with
    | exn a b => exact .exn (sg _ _ a) b
    | exf a b e f => exact .exf (sg _ _ a) b (sg _ _ e) (IsFs.mono sg p f)
theorem IsDs.mono (sg : Same G G') (p : Pre ι ι') : ∀ {ds : List D} {vs : List V}, IsDs K mg G ι vs ds → IsDs K mg G' ι' vs ds
  | [], _, h => by cases h; exact .nil
  | d :: ds, _, h => by
    cases h with
    | cons a b => exact .cons (IsD.mono sg p a) (IsDs.mono sg p b)
theorem IsKs.mono (sg : Same G G') (p : Pre ι ι') : ∀ {ds : List (Key × D)} {vs : List (Key × V)}, IsKs K mg G ι vs ds → IsKs K mg G' ι' vs ds
  | [], _, h => by cases h; exact .nil
  | (k, d) :: ds, _, h => by
    cases h with
    | cons a b => exact .cons (IsD.mono sg p a) (IsKs.mono sg p b)
theorem IsTs.mono (sg : Same G G') (p : Pre ι ι') : ∀ {ds : List (List Key × D)} {vs : List (List Key × V)}, IsTs K mg G ι vs ds → IsTs K mg G' ι' vs ds
  | [], _, h => by cases h; exact .nil
  | (k, d) :: ds, _, h => by
    cases h with
    | cons a b => exact .cons (IsD.mono sg p a) (IsTs.mono sg p b)
theorem IsFs.mono (sg : Same G G') (p : Pre ι ι') : ∀ {ds : List (Str × D)} {vs : List (Str × V)}, IsFs K mg G ι vs ds → IsFs K mg G' ι' vs ds
  | [], _, h => by cases h; exact .nil
  | (k, d) :: ds, _, h => by
    cases h with
    | cons a b => exact .cons (IsD.mono sg p a) (IsFs.mono sg p b)
end

theorem IsDs.length : ∀ {vs : List V} {ds : List D}, IsDs K mg G ι vs ds → vs.length = ds.length
  | _, _, .nil => rfl
  | _, _, .cons _ t => by rw [List.length_cons, List.length_cons, IsDs.length t]
theorem IsDs.get : ∀ {vs : List V} {ds : List D} {i : Nat} {d : D}, IsDs K mg G ι vs ds → ds[i]? = some d → ∃ v, vs[i]? = some v ∧ IsD K mg G ι v d
  | _, _, _, _, .nil, e => by simp at e
  | _, _, 0, _, .cons h _, e => by simp at e; subst e; exact ⟨_, rfl, h⟩
  | _, _, i + 1, d, .cons _ t, e => by
    obtain ⟨v, a, b⟩ := IsDs.get (i := i) (d := d) t (by simpa using e)
    exact ⟨v, by simpa using a, b⟩
theorem IsDs.getV : ∀ {vs : List V} {ds : List D} {i : Nat} {v : V}, IsDs K mg G ι vs ds → vs[i]? = some v → ∃ d, ds[i]? = some d ∧ IsD K mg G ι v d
  | _, _, _, _, .nil, e => by simp at e
  | _, _, 0, _, .cons h _, e => by simp at e; subst e; exact ⟨_, rfl, h⟩
  | _, _, i + 1, d, .cons _ t, e => by
    obtain ⟨v, a, b⟩ := IsDs.getV (i := i) (v := d) t (by simpa using e)
    exact ⟨v, by simpa using a, b⟩
theorem IsDs.append : ∀ {vs ws : List V} {ds es : List D}, IsDs K mg G ι vs ds → IsDs K mg G ι ws es → IsDs K mg G ι (vs ++ ws) (ds ++ es)
  | _, _, _, _, .nil, s => s
  | _, _, _, _, .cons r t, s => .cons r (IsDs.append t s)
theorem IsDs.take : ∀ {vs : List V} {ds : List D} (n : Nat), IsDs K mg G ι vs ds → IsDs K mg G ι (vs.take n) (ds.take n)
  | _, _, 0, _ => .nil
  | _, _, _ + 1, .nil => .nil
  | _, _, n + 1, .cons r t => .cons r (IsDs.take n t)
theorem IsDs.drop : ∀ {vs : List V} {ds : List D} (n : Nat), IsDs K mg G ι vs ds → IsDs K mg G ι (vs.drop n) (ds.drop n)
  | _, _, 0, r => r
  | _, _, _ + 1, .nil => .nil
  | _, _, n + 1, .cons _ t => IsDs.drop n t
theorem IsDs.set {v : V} {d : D} (h : IsD K mg G ι v d) : ∀ {vs : List V} {ds : List D} (i : Nat), IsDs K mg G ι vs ds → IsDs K mg G ι (vs.set i v) (ds.set i d)
  | _, _, _, .nil => .nil
  | _, _, 0, .cons _ t => .cons h t
  | _, _, i + 1, .cons q t => .cons q (IsDs.set h i t)
theorem IsDs.reverse : ∀ {vs : List V} {ds : List D}, IsDs K mg G ι vs ds → IsDs K mg G ι vs.reverse ds.reverse
  | _, _, .nil => .nil
  | _, _, .cons r t => by
    rw [List.reverse_cons, List.reverse_cons]
    exact (IsDs.reverse t).append (.cons r .nil)
theorem IsDs.eraseIdx : ∀ {vs : List V} {ds : List D} (i : Nat), IsDs K mg G ι vs ds → IsDs K mg G ι (vs.eraseIdx i) (ds.eraseIdx i)
  | _, _, _, .nil => .nil
  | _, _, 0, .cons _ t => t
  | _, _, i + 1, .cons q t => .cons q (IsDs.eraseIdx i t)
theorem IsDs.rep {vs : List V} {ds : List D} (h : IsDs K mg G ι vs ds) : ∀ n : Nat, IsDs K mg G ι (List.replicate n vs).flatten (List.replicate n ds).flatten
  | 0 => .nil
  | n + 1 => by
    rw [List.replicate_succ, List.replicate_succ, List.flatten_cons, List.flatten_cons]
    exact h.append (IsDs.rep h n)
theorem IsDs.ins {v : V} {d : D} (h : IsD K mg G ι v d) : ∀ {vs : List V} {ds : List D} (i : Nat), IsDs K mg G ι vs ds → IsDs K mg G ι (vs.insertIdx i v) (ds.insertIdx i d)
  | _, _, 0, r => .cons h r
  | _, _, _ + 1, .nil => .nil
  | _, _, i + 1, .cons q t => .cons q (IsDs.ins h i t)
theorem IsKs.length : ∀ {vs : List (Key × V)} {ds : List (Key × D)}, IsKs K mg G ι vs ds → vs.length = ds.length
  | _, _, .nil => rfl
  | _, _, .cons _ t => by rw [List.length_cons, List.length_cons, IsKs.length t]
theorem IsTs.length : ∀ {vs : List (List Key × V)} {ds : List (List Key × D)}, IsTs K mg G ι vs ds → vs.length = ds.length
  | _, _, .nil => rfl
  | _, _, .cons _ t => by rw [List.length_cons, List.length_cons, IsTs.length t]
end

/-! ### the memory in an abstract heap -/
/-- whose an address is -/
inductive Own where
  | obj (l : Nat) | fld (l : Nat) (f : Str) | slot (i : Nat) | tmp
  deriving DecidableEq

section
variable (K : PySem.W.Frag) (mg : Str → Option Value) (ofl : Str → Str → Bool)
/-- a changeable list, dict at a -/
def Cn (G : Hp) (ι : List Addr) (H : Hp) (a : Addr) : D → Prop
  | .lst ds => ∃ vs, H a = some (.lst vs) ∧ IsDs K mg G ι vs ds
  | .dic ks => ∃ kvs, H a = some (.dK kvs) ∧ IsKs K mg G ι kvs ks
  | .dit ks => ∃ kvs, H a = some (.dT kvs) ∧ IsTs K mg G ι kvs ks
  | _ => False
/-- a field -/
def FlR (G : Hp) (ι : List Addr) (O : Addr → Option Own) (H : Hp) (l : Nat) (c : Str) (p : Str × V) (q : Str × D) : Prop :=
  p.1 = q.1 ∧ if ofl c q.1 = true then ∃ b, p.2 = .ref b ∧ O b = some (.fld l q.1) ∧ Cn K mg G ι H b q.2 else IsD K mg G ι p.2 q.2
def MoR (G : Hp) (ι : List Addr) (O : Addr → Option Own) (H : Hp) (l : Nat) (a : Addr) : MO → Prop
  | .lst ds => Cn K mg G ι H a (.lst ds)
  | .dic ks => Cn K mg G ι H a (.dic ks)
  | .dit ks => Cn K mg G ι H a (.dit ks)
  | .ins c fs => ∃ C dx vs, mg c = some (.ref C) ∧ H a = some (.ins C dx vs) ∧ Paired (FlR K mg ofl G ι O H l c) vs fs ∧ (fs.map (·.1)).Nodup
structure Wd (F G : Hp) (ι : List Addr) (O : Addr → Option Own) (M : Mem) (H : Hp) : Prop where
  g : Same G H
  f : Same F H
  og : ∀ a, O a ≠ none → G a = none ∧ F a = none ∧ H a ≠ none
  gf : ∀ a, G a ≠ none → F a = none
  len : ι.length = M.length
  at_ : ∀ l o, M[l]? = some o → ∃ a, ι[l]? = some a ∧ O a = some (.obj l) ∧ MoR K mg ofl G ι O H l a o
/-- the slots of a frame: ow are those that hold a changeable thing of their own -/
def SlR (ow : List Nat) (G : Hp) (ι : List Addr) (O : Addr → Option Own) (H : Hp) (σ : St) (sd : Sd) : Prop :=
  σ.length = sd.length ∧ ∀ i d, sd[i]? = some (some d) → ∃ v, σ[i]? = some (some v) ∧ if i ∈ ow then ∃ b, v = .ref b ∧ O b = some (.slot i) ∧ Cn K mg G ι H b d else IsD K mg G ι v d
structure SR (ow : List Nat) (F G : Hp) (ι : List Addr) (O : Addr → Option Own) (σ : St) (sd : Sd) (M : Mem) (H : Hp) : Prop where
  wd : Wd K mg ofl F G ι O M H
  sl : SlR K mg ow G ι O H σ sd
end

inductive Kd where
  | dat | own | sl | fp
  deriving DecidableEq

/-- how an expression's value stands -/
def KR (K : PySem.W.Frag) (mg : Str → Option Value) (ow : List Nat) (G : Hp) (ι : List Addr) (O : Addr → Option Own) (H : Hp) (σ : St) (sd : Sd) (k : Kd) (v : V) (d : D) : Prop := match k with
  | .dat => IsD K mg G ι v d
  | .own => ∃ b, v = .ref b ∧ O b = some .tmp ∧ Cn K mg G ι H b d
  | .sl => IsD K mg G ι v d ∨ ∃ i, i ∈ ow ∧ σ[i]? = some (some v) ∧ sd[i]? = some (some d)
  | .fp => IsD K mg G ι v d ∨ ∃ b, v = .ref b ∧ Cn K mg G ι H b d

/-- what is told of an exception that flies: the class's value, its own dict -/
def ExR (K : PySem.W.Frag) (mg : Str → Option Value) (G : Hp) (ι : List Addr) (H : Hp) (x : Exn) (c : Value) (da : Option Addr) : Prop :=
  ClR mg x.cls c ∧ ((x.fs = [] ∧ da = none) ∨ ∃ d vs, da = some d ∧ G d = some (.xd vs) ∧ IsFs K mg G ι vs x.fs)

section
variable (K : PySem.W.Frag) (mg : Str → Option Value) (ofl : Str → Str → Bool) (W : WX)
/-- expressions -/
abbrev Ev := Sd → Mem → R D
def EPo (ow : List Nat) (p : Bool) (k : Kd) (F G : Hp) (ι : List Addr) (σ : St) (sd : Sd) (H : Hp) (Q : VK) : R D → Prop
  | .bad => False
  | .ok d M' => ∀ v H' G' ι' O', Same G G' → Pre ι ι' → SR K mg ofl ow F G' ι' O' σ sd M' H' → KR K mg ow G' ι' O' H' σ sd k v d → (p = true → Same H H') → Q v H'
  | .exc x M' => ∀ c da H' G' ι' O', Same G G' → Pre ι ι' → SR K mg ofl ow F G' ι' O' σ sd M' H' → ExR K mg G' ι' H' x c da → W c da σ H'
def tev (ow : List Nat) (p : Bool) (k : Kd) (ev : Ev) : TE := fun σ H Q => ∃ F G ι O sd M, SR K mg ofl ow F G ι O σ sd M H ∧ EPo K mg ofl W ow p k F G ι σ sd H Q (ev sd M)
/-- tests -/
abbrev Tv := Sd → Mem → R Bool
def TPo (ow : List Nat) (p : Bool) (F G : Hp) (ι : List Addr) (σ : St) (sd : Sd) (H : Hp) (Q : Bool → Hp → Prop) : R Bool → Prop
  | .bad => False
  | .ok b M' => ∀ H' G' ι' O', Same G G' → Pre ι ι' → SR K mg ofl ow F G' ι' O' σ sd M' H' → (p = true → Same H H') → Q b H'
  | .exc x M' => ∀ c da H' G' ι' O', Same G G' → Pre ι ι' → SR K mg ofl ow F G' ι' O' σ sd M' H' → ExR K mg G' ι' H' x c da → W c da σ H'
def ttv (ow : List Nat) (p : Bool) (ev : Tv) : TT := fun σ H Q => ∃ F G ι O sd M, SR K mg ofl ow F G ι O σ sd M H ∧ TPo K mg ofl W ow p F G ι σ sd H Q (ev sd M)
/-- arguments -/
abbrev Av := Sd → Mem → R (List D)
def APo (ow : List Nat) (p : Bool) (F G : Hp) (ι : List Addr) (σ : St) (sd : Sd) (H : Hp) (Q : List V → Hp → Prop) : R (List D) → Prop
  | .bad => False
  | .ok ds M' => ∀ vs H' G' ι' O', Same G G' → Pre ι ι' → SR K mg ofl ow F G' ι' O' σ sd M' H' → IsDs K mg G' ι' vs ds → (p = true → Same H H') → Q vs H'
  | .exc x M' => ∀ c da H' G' ι' O', Same G G' → Pre ι ι' → SR K mg ofl ow F G' ι' O' σ sd M' H' → ExR K mg G' ι' H' x c da → W c da σ H'
def tav (ow : List Nat) (p : Bool) (ev : Av) : TA := fun σ H Q => ∃ F G ι O sd M, SR K mg ofl ow F G ι O σ sd M H ∧ APo K mg ofl W ow p F G ι σ sd H Q (ev sd M)
/-- statements; ro: a def's value is a changeable thing of its own -/
abbrev Sv := Sd → Mem → La.F
def SPo (ow ow' : List Nat) (ro : Bool) (F G : Hp) (ι : List Addr) (D : Ends) : La.F → Prop
  | .bad => False
  | .nx sd' M' => ∀ σ' H' G' ι' O', Same G G' → Pre ι ι' → SR K mg ofl ow' F G' ι' O' σ' sd' M' H' → D.nx σ' H'
  | .brk sd' M' => ∀ σ' H' G' ι' O', Same G G' → Pre ι ι' → SR K mg ofl ow F G' ι' O' σ' sd' M' H' → D.bk σ' H'
  | .cnt sd' M' => ∀ σ' H' G' ι' O', Same G G' → Pre ι ι' → SR K mg ofl ow F G' ι' O' σ' sd' M' H' → D.ct σ' H'
  | .ret d M' => ∀ v H' G' ι' O', Same G G' → Pre ι ι' → Wd K mg ofl F G' ι' O' M' H' → (if ro then ∃ b, v = .ref b ∧ (∃ o, O' b = some o ∧ (∀ l, o ≠ .obj l) ∧ ∀ l f, o ≠ .fld l f) ∧ Cn K mg G' ι' H' b d else IsD K mg G' ι' v d) → D.rt v H'
  | .exc x sd' M' => ∀ c da σ' H' G' ι' O', Same G G' → Pre ι ι' → SR K mg ofl ow F G' ι' O' σ' sd' M' H' → ExR K mg G' ι' H' x c da → W c da σ' H'
def tsv (ow ow' : List Nat) (ro : Bool) (ev : Sv) : TS := fun D σ H => ∃ F G ι O sd M, SR K mg ofl ow F G ι O σ sd M H ∧ SPo K mg ofl W ow ow' ro F G ι D (ev sd M)
end

structure PEv (ofl : Str → Str → Bool) (X : Cx) (W : WX) (ow : List Nat) (p : Bool) (k : Kd) (e : Expr) (ev : Ev) : Prop where
  pe : PE X e (tev X.K X.mg ofl W ow p k ev)
structure PTv (ofl : Str → Str → Bool) (X : Cx) (W : WX) (ow : List Nat) (p : Bool) (e : Expr) (ev : Tv) : Prop where
  pt : PT X e (ttv X.K X.mg ofl W ow p ev)
structure PAv (ofl : Str → Str → Bool) (X : Cx) (W : WX) (ow : List Nat) (p : Bool) (es : List Expr) (ev : Av) : Prop where
  pa : PA X es (tav X.K X.mg ofl W ow p ev)
structure PSv (ofl : Str → Str → Bool) (X : Cx) (W : WX) (ow ow' : List Nat) (ro : Bool) (st : Stmt) (ev : Sv) : Prop where
  ps : PS X st (tsv X.K X.mg ofl W ow ow' ro ev)
structure PBv (ofl : Str → Str → Bool) (X : Cx) (W : WX) (ow ow' : List Nat) (ro : Bool) (sts : List Stmt) (ev : Sv) : Prop where
  ps : PSs X sts (tsv X.K X.mg ofl W ow ow' ro ev)

theorem PE.imp {X : Cx} {e : Expr} {t u : TE} (h : PE X e t) (i : ∀ σ H Q, u σ H Q → t σ H Q) : PE X e u := ⟨fun pins s σ H Q I q => h.run pins s σ H Q I (i σ H Q q)⟩
theorem PT.imp {X : Cx} {e : Expr} {t u : TT} (h : PT X e t) (i : ∀ σ H Q, u σ H Q → t σ H Q) : PT X e u := ⟨fun pins s σ H Q I q => h.run pins s σ H Q I (i σ H Q q)⟩
theorem PA.imp {X : Cx} {e : List Expr} {t u : TA} (h : PA X e t) (i : ∀ σ H Q, u σ H Q → t σ H Q) : PA X e u := ⟨fun pos pins s σ H Q I q => h.run pos pins s σ H Q I (i σ H Q q)⟩
theorem PS.imp {X : Cx} {e : Stmt} {t u : TS} (h : PS X e t) (i : ∀ D σ H, u D σ H → t D σ H) : PS X e u := ⟨fun pins s σ H D I q => h.run pins s σ H D I (i D σ H q)⟩
theorem PSs.imp {X : Cx} {e : List Stmt} {t u : TS} (h : PSs X e t) (i : ∀ D σ H, u D σ H → t D σ H) : PSs X e u := ⟨fun pins s σ H D I q => h.run pins s σ H D I (i D σ H q)⟩
end La

set_option Elab.async false
set_option linter.all false
set_option maxRecDepth 100000
/-! La2: how the memory stays while the heap goes on. -/
namespace La
open PySem PySem.Spec L2

def updO (O : Addr → Option Own) (a : Addr) (o : Option Own) : Addr → Option Own := fun b => if b = a then o else O b
theorem updO_same {O : Addr → Option Own} {a : Addr} {o : Option Own} : updO O a o a = o := if_pos rfl
theorem updO_ne {O : Addr → Option Own} {a b : Addr} {o : Option Own} (h : b ≠ a) : updO O a o b = O b := if_neg h

theorem Same.upd {H : Hp} {a : Addr} {o : HO} (h : H a = none) : Same H (upd H a o) := fun b u e => by
  rw [upd_ne (ne_of_none e h)]
  exact e
theorem Same.upd2 {G H : Hp} {a : Addr} {o : HO} (s : Same G H) : Same (L2.upd G a o) (L2.upd H a o) := fun b u e => by
  by_cases h : b = a
  · subst h
    rw [upd_same] at e ⊢
    exact e
  · rw [upd_ne h] at e ⊢
    exact s b u e
theorem Same.none {G H : Hp} {a : Addr} (s : Same G H) (h : H a = none) : G a = none := s.free h
theorem Same.put {G H : Hp} {a : Addr} {o : HO} (s : Same G H) (h : G a = Option.none) : Same G (L2.upd H a o) := fun b u e => by
  rw [upd_ne (ne_of_none e h)]
  exact s b u e

section
variable {K : PySem.W.Frag} {mg : Str → Option Value} {ofl : Str → Str → Bool} {F G G' : Hp} {ι ι' : List Addr} {O O' : Addr → Option Own} {M M' : Mem} {H H' : Hp} {ow : List Nat} {σ : L2.St} {sd : Sd}

theorem Cn.mono {a : Addr} {d : D} (h : Cn K mg G ι H a d) (sg : Same G G') (p : Pre ι ι') (e : H' a = H a) : Cn K mg G' ι' H' a d := by
  cases d with
  | lst ds => obtain ⟨vs, h1, h2⟩ := h; exact ⟨vs, e.trans h1, h2.mono sg p⟩
  | dic ks => obtain ⟨vs, h1, h2⟩ := h; exact ⟨vs, e.trans h1, h2.mono sg p⟩
  | dit ks => obtain ⟨vs, h1, h2⟩ := h; exact ⟨vs, e.trans h1, h2.mono sg p⟩
  | _ => exact h.elim
theorem Cn.some {a : Addr} {d : D} (h : Cn K mg G ι H a d) : H a ≠ none := by
  cases d with
  | lst ds => obtain ⟨vs, h1, h2⟩ := h; rw [h1]; simp
  | dic ks => obtain ⟨vs, h1, h2⟩ := h; rw [h1]; simp
  | dit ks => obtain ⟨vs, h1, h2⟩ := h; rw [h1]; simp
  | _ => exact h.elim
theorem FlR.mono {l : Nat} {c : Str} {p : Str × V} {q : Str × D} (h : FlR K mg ofl G ι O H l c p q) (sg : Same G G') (pr : Pre ι ι') (e : ∀ b f, O b = some (.fld l f) → O' b = some (.fld l f) ∧ H' b = H b) : FlR K mg ofl G' ι' O' H' l c p q := by
  obtain ⟨h1, h2⟩ := h
  refine ⟨h1, ?_⟩
  split at h2
  · rename_i hc
    rw [if_pos hc]
    obtain ⟨b, e1, e2, e3⟩ := h2
    obtain ⟨e4, e5⟩ := e _ _ e2
    exact ⟨b, e1, e4, e3.mono sg pr e5⟩
  · rename_i hc
    rw [if_neg hc]
    exact h2.mono sg pr
theorem MoR.mono {l : Nat} {a : Addr} {o : MO} (h : MoR K mg ofl G ι O H l a o) (sg : Same G G') (pr : Pre ι ι') (ea : H' a = H a) (e : ∀ b f, O b = some (.fld l f) → O' b = some (.fld l f) ∧ H' b = H b) : MoR K mg ofl G' ι' O' H' l a o := by
  cases o with
  | lst ds => exact Cn.mono (d := .lst ds) h sg pr ea
  | dic ds => exact Cn.mono (d := .dic ds) h sg pr ea
  | dit ds => exact Cn.mono (d := .dit ds) h sg pr ea
  | ins c fs =>
    obtain ⟨C, dx, vs, h1, h2, h3, h4⟩ := h
    exact ⟨C, dx, vs, h1, ea.trans h2, Paired.mapP h3 fun p q z => z.mono sg pr e, h4⟩

/-- the heap goes on, what is owned by the memory stays -/
theorem Wd.go (w : Wd K mg ofl F G ι O M H) (sg : Same G G') (g : Same G' H') (f : Same F H') (og : ∀ a, O' a ≠ none → G' a = none ∧ F a = none ∧ H' a ≠ none) (gf : ∀ a, G' a ≠ none → F a = none)
    (k : ∀ b o, O b = some o → (∃ l, o = .obj l) ∨ (∃ l f, o = .fld l f) → O' b = some o ∧ H' b = H b) : Wd K mg ofl F G' ι O' M H' where
  g := g
  f := f
  og := og
  gf := gf
  len := w.len
  at_ := fun l o e => by
    obtain ⟨a, h1, h2, h3⟩ := w.at_ l o e
    obtain ⟨h4, h5⟩ := k a _ h2 (.inl ⟨l, rfl⟩)
    exact ⟨a, h1, h4, h3.mono sg (Pre.refl ι) h5 fun b f e2 => k b _ e2 (.inr ⟨l, f, rfl⟩)⟩
theorem SlR.mono (s : SlR K mg ow G ι O H σ sd) (sg : Same G G') (p : Pre ι ι') (k : ∀ b i, i ∈ ow → O b = some (.slot i) → O' b = some (.slot i) ∧ H' b = H b) : SlR K mg ow G' ι' O' H' σ sd := by
  refine ⟨s.1, fun i d e => ?_⟩
  obtain ⟨v, h1, h2⟩ := s.2 i d e
  refine ⟨v, h1, ?_⟩
  split at h2
  · rename_i hc
    rw [if_pos hc]
    obtain ⟨b, e1, e2, e3⟩ := h2
    obtain ⟨e4, e5⟩ := k b i hc e2
    exact ⟨b, e1, e4, e3.mono sg p e5⟩
  · rename_i hc
    rw [if_neg hc]
    exact h2.mono sg p
/-- .. of a frame too -/
theorem SR.go (s : SR K mg ofl ow F G ι O σ sd M H) (sg : Same G G') (g : Same G' H') (f : Same F H') (og : ∀ a, O' a ≠ none → G' a = none ∧ F a = none ∧ H' a ≠ none) (gf : ∀ a, G' a ≠ none → F a = none)
    (k : ∀ b o, O b = some o → o ≠ .tmp → O' b = some o ∧ H' b = H b) : SR K mg ofl ow F G' ι O' σ sd M H' :=
  ⟨s.wd.go sg g f og gf fun b o e z => k b o e (by
    rintro rfl
    rcases z with ⟨l, z⟩ | ⟨l, f, z⟩ <;> cases z), s.sl.mono sg (Pre.refl ι) fun b i _ e => k b _ e (by intro z; cases z)⟩
theorem Wd.noO (w : Wd K mg ofl F G ι O M H) {p : Addr} (hp : H p = none) : O p = none := by
  cases e : O p with
  | none => rfl
  | some o => exact absurd hp (w.og p (by rw [e]; simp)).2.2
/-- a new thing that never changes -/
theorem SR.laidG (s : SR K mg ofl ow F G ι O σ sd M H) {p : Addr} {o : HO} (hp : H p = none) : SR K mg ofl ow F (upd G p o) ι O σ sd M (upd H p o) ∧ Same G (upd G p o) ∧ Same H (upd H p o) ∧ upd G p o p = some o := by
  have hg : G p = none := s.wd.g.free hp
  have hf : F p = none := s.wd.f.free hp
  have ho := s.wd.noO hp
  refine ⟨s.go (Same.upd hg) (Same.upd2 s.wd.g) (fun b u e => ?_) (fun a e => ?_) (fun a e => ?_) (fun b u e _ => ⟨e, upd_ne ?_⟩), Same.upd hg, Same.upd hp, upd_same⟩
  · exact Same.upd hp b u (s.wd.f b u e)
  · have ne : a ≠ p := fun z => e (by rw [z]; exact ho)
    obtain ⟨h1, h2, h3⟩ := s.wd.og a e
    exact ⟨by rw [upd_ne ne]; exact h1, h2, by rw [upd_ne ne]; exact h3⟩
  · by_cases z : a = p
    · rw [z]; exact hf
    · rw [upd_ne z] at e
      exact s.wd.gf a e
  · intro z
    rw [z, ho] at e
    cases e
/-- a new thing of one's own -/
theorem SR.laidT (s : SR K mg ofl ow F G ι O σ sd M H) {p : Addr} {o : HO} (hp : H p = none) : SR K mg ofl ow F G ι (updO O p (some .tmp)) σ sd M (upd H p o) ∧ Same H (upd H p o) := by
  have hg : G p = none := s.wd.g.free hp
  have hf : F p = none := s.wd.f.free hp
  have ho := s.wd.noO hp
  refine ⟨s.go (Same.refl G) (Same.put s.wd.g hg) (Same.put s.wd.f hf) (fun a e => ?_) s.wd.gf (fun b u e _ => ?_), Same.upd hp⟩
  · by_cases z : a = p
    · subst z
      exact ⟨hg, hf, by rw [upd_same]; simp⟩
    · rw [updO_ne z] at e
      obtain ⟨h1, h2, h3⟩ := s.wd.og a e
      exact ⟨h1, h2, by rw [upd_ne z]; exact h3⟩
  · have ne : b ≠ p := fun z => by rw [z, ho] at e; cases e
    exact ⟨by rw [updO_ne ne]; exact e, upd_ne ne⟩
/-- a thing of one's own that will never change again -/
theorem SR.freeze (s : SR K mg ofl ow F G ι O σ sd M H) {b : Addr} {d : D} (hb : O b = some .tmp) (c : Cn K mg G ι H b d) : ∃ G', SR K mg ofl ow F G' ι (updO O b none) σ sd M H ∧ Same G G' ∧ IsD K mg G' ι (.ref b) d := by
  obtain ⟨hg, hf, _⟩ := s.wd.og b (by rw [hb]; simp)
  cases e : H b with
  | none => exact absurd e c.some
  | some o =>
    have sg : Same G (upd G b o) := Same.upd hg
    refine ⟨upd G b o, s.go sg (fun a u z => ?_) s.wd.f (fun a z => ?_) (fun a z => ?_) (fun a u z n => ⟨?_, rfl⟩), sg, ?_⟩
    · by_cases q : a = b
      · subst q
        rw [upd_same] at z
        cases z
        exact e
      · rw [upd_ne q] at z
        exact s.wd.g a u z
    · by_cases q : a = b
      · subst q
        rw [updO_same] at z
        exact absurd rfl z
      · rw [updO_ne q] at z
        obtain ⟨h1, h2, h3⟩ := s.wd.og a z
        exact ⟨by rw [upd_ne q]; exact h1, h2, h3⟩
    · by_cases q : a = b
      · subst q
        exact hf
      · rw [upd_ne q] at z
        exact s.wd.gf a z
    · rw [updO_ne (fun q => n (by rw [q, hb] at z; cases z; rfl))]
      exact z
    · cases d with
      | lst ds =>
        obtain ⟨vs, h1, h2⟩ := c
        rw [e] at h1
        cases h1
        exact .lst upd_same (h2.mono sg (Pre.refl ι))
      | dic ds =>
        obtain ⟨vs, h1, h2⟩ := c
        rw [e] at h1
        cases h1
        exact .dic upd_same (h2.mono sg (Pre.refl ι))
      | dit ds =>
        obtain ⟨vs, h1, h2⟩ := c
        rw [e] at h1
        cases h1
        exact .dit upd_same (h2.mono sg (Pre.refl ι))
      | _ => exact c.elim

/-! ### kinds -/
/-- what a value holds now -/
def At (K : PySem.W.Frag) (mg : Str → Option Value) (G : Hp) (ι : List Addr) (H : Hp) (v : V) (d : D) : Prop := IsD K mg G ι v d ∨ ∃ b, v = .ref b ∧ Cn K mg G ι H b d
theorem KR.at (s : SR K mg ofl ow F G ι O σ sd M H) {k : Kd} {v : V} {d : D} (h : KR K mg ow G ι O H σ sd k v d) : At K mg G ι H v d := by
  cases k with
  | dat => exact .inl h
  | own => obtain ⟨b, h1, h2, h3⟩ := h; exact .inr ⟨b, h1, h3⟩
  | sl =>
    rcases h with h | ⟨i, h1, h2, h3⟩
    · exact .inl h
    · obtain ⟨v', e1, e2⟩ := s.sl.2 i d h3
      rw [h2] at e1
      cases e1
      rw [if_pos h1] at e2
      obtain ⟨b, e3, e4, e5⟩ := e2
      exact .inr ⟨b, e3, e5⟩
  | fp => exact h
/-- a kind that stands while another expression is walked -/
def okK (k : Kd) (p : Bool) : Bool := match k with
  | .dat => true
  | .own => false
  | .sl => true
  | .fp => p
theorem KR.stay {k : Kd} {p : Bool} {v : V} {d : D} (h : KR K mg ow G ι O H σ sd k v d) (ok : okK k p = true) (sg : Same G G') (pr : Pre ι ι') (sm : p = true → Same H H') : KR K mg ow G' ι' O' H' σ sd k v d := by
  cases k with
  | dat => exact IsD.mono sg pr h
  | own => cases ok
  | sl =>
    rcases h with h | h
    · exact .inl (IsD.mono sg pr h)
    · exact .inr h
  | fp =>
    rcases h with h | ⟨b, h1, h2⟩
    · exact .inl (IsD.mono sg pr h)
    · refine .inr ⟨b, h1, h2.mono sg pr ?_⟩
      cases e : H b with
      | none => exact absurd e h2.some
      | some o => exact sm ok b o e
end
end La

set_option Elab.async false
set_option linter.all false
set_option maxRecDepth 100000
/-! La3: operations on data, and what the machine does by them. -/
namespace La
open PySem PySem.Spec L2

def D.isNon : D → Bool
  | .non => true
  | _ => false
/-! ### data without changeable things as the library's data -/
mutual
def D.pl : D → Bool
  | .non => true | .bl _ => true | .int _ => true | .str _ => true
  | .tup ds => D.pls ds | .lst ds => D.pls ds
  | .scr _ => true
  | _ => false
def D.pls : List D → Bool
  | [] => true
  | d :: ds => d.pl && D.pls ds
end
mutual
def D.rk : D → Nat
  | .tup ds => D.rks ds + 1 | .lst ds => D.rks ds + 1 | .scr _ => 1
  | _ => 0
def D.rks : List D → Nat
  | [] => 0
  | d :: ds => max d.rk (D.rks ds)
end
mutual
def D.py : D → PyData
  | .bl b => .bool b | .int i => .int i | .str x => .str x
  | .tup ds => .tuple (D.pys ds) | .lst ds => .list (D.pys ds) | .scr ns => .list (ns.map .int)
  | _ => .none
def D.pys : List D → List PyData
  | [] => []
  | d :: ds => d.py :: D.pys ds
end
/-- == of data -/
def dEq (d e : D) : Bool := PyData.eqv d.py e.py
def okEq (d e : D) : Bool := d.pl && e.pl && decide (min d.rk e.rk ≤ 60)

theorem plainInts : ∀ ns : List Int, PyData.plainAll (ns.map .int) = true
  | [] => rfl
  | n :: ns => by rw [List.map_cons, PyData.plainAll, plainInts ns]; rfl
theorem depthInts : ∀ ns : List Int, PyData.depthAll (ns.map .int) = 0
  | [] => rfl
  | n :: ns => by rw [List.map_cons, PyData.depthAll, depthInts ns]; rfl
mutual
theorem D.py_plain : ∀ d : D, d.pl = true → d.py.plain = true
  | .non, _ => rfl | .bl _, _ => rfl | .int _, _ => rfl | .str _, _ => rfl
  | .tup ds, h => D.pys_plain ds h
  | .lst ds, h => D.pys_plain ds h
  | .scr ns, _ => plainInts ns
  | .dic _, h => by cases h
  | .dit _, h => by cases h
  | .obj _, h => by cases h
  | .fn _, h => by cases h
  | .exn _ _, h => by cases h
theorem D.pys_plain : ∀ ds : List D, D.pls ds = true → PyData.plainAll (D.pys ds) = true
  | [], _ => rfl
  | d :: ds, h => by
    have h' : d.pl = true ∧ D.pls ds = true := by simpa [D.pls] using h
    show (d.py.plain && PyData.plainAll (D.pys ds)) = true
    rw [D.py_plain d h'.1, D.pys_plain ds h'.2]
    rfl
end
mutual
theorem D.py_depth : ∀ d : D, d.py.depth = d.rk
  | .non => rfl | .bl _ => rfl | .int _ => rfl | .str _ => rfl
  | .tup ds => by
    show PyData.depthAll (D.pys ds) + 1 = D.rks ds + 1
    rw [D.pys_depth ds]
  | .lst ds => by
    show PyData.depthAll (D.pys ds) + 1 = D.rks ds + 1
    rw [D.pys_depth ds]
  | .scr ns => by
    show PyData.depthAll (ns.map .int) + 1 = 1
    rw [depthInts ns]
  | .dic _ => rfl | .dit _ => rfl | .obj _ => rfl | .fn _ => rfl | .exn _ _ => rfl
theorem D.pys_depth : ∀ ds : List D, PyData.depthAll (D.pys ds) = D.rks ds
  | [] => rfl
  | d :: ds => by
    show max d.py.depth (PyData.depthAll (D.pys ds)) = max d.rk (D.rks ds)
    rw [D.py_depth d, D.pys_depth ds]
end

section
variable {K : PySem.W.Frag} {mg : Str → Option Value} {ofl : Str → Str → Bool} {F G G' : Hp} {ι ι' : List Addr} {O O' : Addr → Option Own} {M M' : Mem} {H H' : Hp} {ow : List Nat} {σ : L2.St} {sd : Sd}
theorem dpInts : ∀ ns : List Int, DpAll K H (ns.map V.int) (ns.map .int)
  | [] => .nil
  | n :: ns => .cons (.int n) (dpInts ns)
mutual
theorem IsD.dp (sg : Same G H) : ∀ {d : D} {v : V}, d.pl = true → IsD K mg G ι v d → Dp K H v d.py
  | .non, _, _, h => by cases h; exact .non
  | .bl b, _, _, h => by cases h; exact .bl b
  | .int i, _, _, h => by cases h; exact .int i
  | .str x, _, _, h => by cases h; exact .str x
  | .tup ds, _, p, h => by
    cases h with
    | tup a b => exact .tup (Same.sqt sg a) (IsDs.dp sg p b)
  | .lst ds, _, p, h => by
    cases h with
    | lst a b => exact .lst (.of (sg _ _ a)) (IsDs.dp sg p b)
  | .scr ns, _, p, h => by
    cases h with
    | scr a => exact .lst (Same.sql sg a) (dpInts ns)
  | .dic _, _, p, _ => by cases p
  | .dit _, _, p, _ => by cases p
  | .obj _, _, p, _ => by cases p
  | .fn _, _, p, _ => by cases p
  | .exn _ _, _, p, _ => by cases p
theorem IsDs.dp (sg : Same G H) : ∀ {ds : List D} {vs : List V}, D.pls ds = true → IsDs K mg G ι vs ds → DpAll K H vs (D.pys ds)
  | [], _, _, h => by cases h; exact .nil
  | d :: ds, _, p, h => by
    have p' : d.pl = true ∧ D.pls ds = true := by simpa [D.pls] using p
    cases h with
    | cons a b => exact .cons (IsD.dp sg p'.1 a) (IsDs.dp sg p'.2 b)
end
theorem At.dp (sg : Same G H) {d : D} {v : V} (p : d.pl = true) (h : At K mg G ι H v d) : Dp K H v d.py := by
  rcases h with h | ⟨b, rfl, h⟩
  · exact h.dp sg p
  · cases d with
    | lst ds =>
      obtain ⟨vs, h1, h2⟩ := h
      exact .lst (.of h1) (h2.dp sg p)
    | dic _ => cases p
    | dit _ => cases p
    | _ => exact h.elim

/-! ### what a value is, by its data -/
theorem At.int {v : V} {i : Int} (h : At K mg G ι H v (.int i)) : v = .int i := by
  rcases h with h | ⟨b, rfl, h⟩
  · cases h; rfl
  · exact h.elim
theorem At.bl {v : V} {i : Bool} (h : At K mg G ι H v (.bl i)) : v = .bl i := by
  rcases h with h | ⟨b, rfl, h⟩
  · cases h; rfl
  · exact h.elim
theorem At.str {v : V} {i : Str} (h : At K mg G ι H v (.str i)) : v = .str i := by
  rcases h with h | ⟨b, rfl, h⟩
  · cases h; rfl
  · exact h.elim
theorem At.non {v : V} (h : At K mg G ι H v .non) : v = .non := by
  rcases h with h | ⟨b, rfl, h⟩
  · cases h; rfl
  · exact h.elim
theorem At.lst (sg : Same G H) {v : V} {ds : List D} (h : At K mg G ι H v (.lst ds)) : ∃ a vs, v = .ref a ∧ H a = some (.lst vs) ∧ IsDs K mg G ι vs ds := by
  rcases h with h | ⟨b, rfl, h⟩
  · cases h with
    | lst a b => exact ⟨_, _, rfl, sg _ _ a, b⟩
  · obtain ⟨vs, h1, h2⟩ := h
    exact ⟨b, vs, rfl, h1, h2⟩
theorem At.tup (sg : Same G H) {v : V} {ds : List D} (h : At K mg G ι H v (.tup ds)) : ∃ a vs, v = .ref a ∧ SqT K H a vs ∧ IsDs K mg G ι vs ds := by
  rcases h with h | ⟨b, rfl, h⟩
  · cases h with
    | tup a b => exact ⟨_, _, rfl, Same.sqt sg a, b⟩
  · exact h.elim
theorem At.scr (sg : Same G H) {v : V} {ns : List Int} (h : At K mg G ι H v (.scr ns)) : ∃ a, v = .ref a ∧ SqL K H a (ns.map V.int) := by
  rcases h with h | ⟨b, rfl, h⟩
  · cases h with
    | scr a => exact ⟨_, rfl, Same.sql sg a⟩
  · exact h.elim
theorem At.dic (sg : Same G H) {v : V} {ks : List (Key × D)} (h : At K mg G ι H v (.dic ks)) : ∃ a kvs, v = .ref a ∧ H a = some (.dK kvs) ∧ IsKs K mg G ι kvs ks := by
  rcases h with h | ⟨b, rfl, h⟩
  · cases h with
    | dic a b => exact ⟨_, _, rfl, sg _ _ a, b⟩
  · obtain ⟨vs, h1, h2⟩ := h
    exact ⟨b, vs, rfl, h1, h2⟩
theorem At.dit (sg : Same G H) {v : V} {ks : List (List Key × D)} (h : At K mg G ι H v (.dit ks)) : ∃ a kvs, v = .ref a ∧ H a = some (.dT kvs) ∧ IsTs K mg G ι kvs ks := by
  rcases h with h | ⟨b, rfl, h⟩
  · cases h with
    | dit a b => exact ⟨_, _, rfl, sg _ _ a, b⟩
  · obtain ⟨vs, h1, h2⟩ := h
    exact ⟨b, vs, rfl, h1, h2⟩
theorem At.none_iff {v : V} {d : D} (h : At K mg G ι H v d) : decide (v = .non) = d.isNon := by
  rcases h with h | ⟨b, rfl, h⟩
  · cases h <;> rfl
  · cases d with
    | lst _ => rfl
    | dic _ => rfl
    | dit _ => rfl
    | _ => exact h.elim
end

/-! ### operations with two things -/
section
variable (ofl : Str → Str → Bool) (X : Cx)
/-- f is what r does: nothing that stood is changed, the value is new or was there -/
def BinOK (f : D → D → Option D) (r : R2) : Prop := ∀ (F G : Hp) (ι : List Addr) (O : Addr → Option Own) (ow : List Nat) (σ : L2.St) (sd : Sd) (M : Mem) (H : Hp) (x y : V) (d e z : D) (Q : VK),
  SR X.K X.mg ofl ow F G ι O σ sd M H → At X.K X.mg G ι H x d → At X.K X.mg G ι H y e → f d e = some z →
  (∀ v H' G', Same G G' → Same H H' → SR X.K X.mg ofl ow F G' ι O σ sd M H' → IsD X.K X.mg G' ι v z → Q v H') → r x y H Q
def UnOK (f : D → Option D) (r : V → Hp → VK → Prop) : Prop := ∀ (F G : Hp) (ι : List Addr) (O : Addr → Option Own) (ow : List Nat) (σ : L2.St) (sd : Sd) (M : Mem) (H : Hp) (x : V) (d z : D) (Q : VK),
  SR X.K X.mg ofl ow F G ι O σ sd M H → At X.K X.mg G ι H x d → f d = some z →
  (∀ v H' G', Same G G' → Same H H' → SR X.K X.mg ofl ow F G' ι O σ sd M H' → IsD X.K X.mg G' ι v z → Q v H') → r x H Q
end

def dAdd : D → D → Option D
  | .int i, .int j => some (.int (i + j))
  | .str x, .str y => if x.length + y.length ≤ sizeLine then some (.str (x ++ y)) else none
  | .lst xs, .lst ys => if xs.length + ys.length ≤ sizeLine then some (.lst (xs ++ ys)) else none
  | .tup xs, .tup ys => if xs.length + ys.length ≤ sizeLine then some (.tup (xs ++ ys)) else none
  | _, _ => none
def dSub : D → D → Option D
  | .int i, .int j => some (.int (i - j))
  | _, _ => none
/-- a * b -/
def dMul : D → D → Option D
  | .int i, .int j => if (-(2 ^ 64) < i ∧ i < 2 ^ 64) ∨ (-(2 ^ 64) < j ∧ j < 2 ^ 64) then some (.int (i * j)) else none
  | .str x, .int n => if n ≤ 1000 ∧ -1000 ≤ n ∧ x.length ≤ 1000 then some (.str ⟨(List.replicate n.toNat x.cps.toList).flatten.toArray⟩) else none
  | .lst xs, .int n => if n ≤ 1000 ∧ -1000 ≤ n ∧ xs.length ≤ 1000 then some (.lst (List.replicate n.toNat xs).flatten) else none
  | _, _ => none
def dDiv : D → D → Option D
  | .int i, .int j => if 0 < j ∧ j.natAbs.log2 < 9000 then some (.int (i / j)) else none
  | _, _ => none
def dMod : D → D → Option D
  | .int i, .int j => if 0 < j then some (.int (i % j)) else none
  | _, _ => none
def dPow : D → D → Option D
  | .int i, .int j => if 0 ≤ j ∧ j ≤ 1000000 ∧ i.natAbs < 2 ^ 64 then some (.int (i ^ j.toNat)) else none
  | _, _ => none
def dLt : D → D → Option D
  | .int i, .int j => some (.bl (decide (i < j)))
  | _, _ => none
def dLe : D → D → Option D
  | .int i, .int j => some (.bl (decide (i ≤ j)))
  | _, _ => none
def dGt : D → D → Option D
  | .int i, .int j => some (.bl (decide (j < i)))
  | _, _ => none
def dGe : D → D → Option D
  | .int i, .int j => some (.bl (decide (j ≤ i)))
  | _, _ => none
def dEqo (d e : D) : Option D := if okEq d e = true then some (.bl (dEq d e)) else none
def dNeo (d e : D) : Option D := if okEq d e = true then some (.bl (!dEq d e)) else none
/-- x in y, for a list or a tuple -/
def dMem (d : D) : D → Option Bool
  | .lst es => if d.pl && D.pls es && decide (d.rk ≤ 60) then some (es.any fun e => dEq e d) else none
  | .tup es => if d.pl && D.pls es && decide (d.rk ≤ 60) then some (es.any fun e => dEq e d) else none
  | _ => none
def dIn (d e : D) : Option D := (dMem d e).map .bl
def dNi (d e : D) : Option D := (dMem d e).map fun b => .bl (!b)
/-- an index -/
def dIx : D → D → Option D
  | .lst ds, .int i => atI ds i
  | .tup ds, .int i => atI ds i
  | .scr ns, .int i => (atI ns i).map .int
  | .str x, .int i => if x.length ≤ sizeLine then (atI x.cps.toList i).map fun c => .str ⟨#[c]⟩ else none
  | _, _ => none
def dIs (d e : D) : Option D := match e with
  | .non => some (.bl d.isNon)
  | _ => none
def dIsNot (d e : D) : Option D := match e with
  | .non => some (.bl (!d.isNon))
  | _ => none
def dLen : D → Option D
  | .lst ds => some (.int ds.length)
  | .tup ds => some (.int ds.length)
  | .scr ns => some (.int ns.length)
  | .str x => if x.length ≤ sizeLine then some (.int x.length) else none
  | _ => none
def dAbs : D → Option D
  | .int i => some (.int (if i < 0 then -i else i))
  | _ => none
def dNeg : D → Option D
  | .int i => some (.int (-i))
  | _ => none
def dToInt : D → Option D
  | .int i => some (.int i)
  | .bl b => some (.int (if b then 1 else 0))
  | _ => none

section
variable {ofl : Str → Str → Bool} {X : Cx}
theorem ok_int {f : Int → Int → V} {g : Int → Int → D} (C : Int → Int → Prop) [∀ i j, Decidable (C i j)] (hv : ∀ (K : PySem.W.Frag) (mg : Str → Option Value) (G : Hp) (ι : List Addr) (i j : Int), IsD K mg G ι (f i j) (g i j)) : BinOK ofl X (fun d e => match d, e with | .int i, .int j => if C i j then some (g i j) else none | _, _ => none) (rI C f) := by
  intro F G ι O ow σ sd M H x y d e z Q s hx hy hf k
  cases d with
  | int i =>
    cases e with
    | int j =>
      obtain rfl := hx.int
      obtain rfl := hy.int
      dsimp only at hf
      split at hf
      · rename_i c
        cases hf
        exact ⟨i, j, rfl, rfl, c, k _ H G (Same.refl G) (Same.refl H) s (hv _ _ _ _ _ _)⟩
      · cases hf
    | _ => cases hf
  | _ => cases hf
theorem ok_int0 {f : Int → Int → V} {g : Int → Int → D} (hv : ∀ (K : PySem.W.Frag) (mg : Str → Option Value) (G : Hp) (ι : List Addr) (i j : Int), IsD K mg G ι (f i j) (g i j)) : BinOK ofl X (fun d e => match d, e with | .int i, .int j => some (g i j) | _, _ => none) (rI0 f) := by
  intro F G ι O ow σ sd M H x y d e z Q s hx hy hf k
  cases d with
  | int i =>
    cases e with
    | int j =>
      obtain rfl := hx.int
      obtain rfl := hy.int
      cases hf
      exact ⟨i, j, rfl, rfl, k _ H G (Same.refl G) (Same.refl H) s (hv _ _ _ _ _ _)⟩
    | _ => cases hf
  | _ => cases hf
theorem BinOK.congr {f g : D → D → Option D} {r : R2} (h : BinOK ofl X f r) (e : ∀ a b, g a b = f a b) : BinOK ofl X g r := by
  have q : g = f := by funext a b; exact e a b
  rw [q]; exact h
theorem okSub : BinOK ofl X dSub (rI0 fun i j => .int (i - j)) := (ok_int0 (g := fun i j => .int (i - j)) fun _ _ _ _ _ _ => .int _).congr fun a b => by cases a <;> cases b <;> rfl
theorem okLt : BinOK ofl X dLt (rI0 fun i j => .bl (decide (i < j))) := (ok_int0 (g := fun i j => .bl (decide (i < j))) fun _ _ _ _ _ _ => .bl _).congr fun a b => by cases a <;> cases b <;> rfl
theorem okLe : BinOK ofl X dLe (rI0 fun i j => .bl (decide (i ≤ j))) := (ok_int0 (g := fun i j => .bl (decide (i ≤ j))) fun _ _ _ _ _ _ => .bl _).congr fun a b => by cases a <;> cases b <;> rfl
theorem okGt : BinOK ofl X dGt (rI0 fun i j => .bl (decide (j < i))) := (ok_int0 (g := fun i j => .bl (decide (j < i))) fun _ _ _ _ _ _ => .bl _).congr fun a b => by cases a <;> cases b <;> rfl
theorem okGe : BinOK ofl X dGe (rI0 fun i j => .bl (decide (j ≤ i))) := (ok_int0 (g := fun i j => .bl (decide (j ≤ i))) fun _ _ _ _ _ _ => .bl _).congr fun a b => by cases a <;> cases b <;> rfl
theorem okDiv : BinOK ofl X dDiv (rI CDivW fun i j => .int (i / j)) := (ok_int (g := fun i j => .int (i / j)) (fun _ j => 0 < j ∧ j.natAbs.log2 < 9000) fun _ _ _ _ _ _ => .int _).congr fun a b => by cases a <;> cases b <;> rfl
theorem okMod : BinOK ofl X dMod (rI (fun _ j => 0 < j) fun i j => .int (i % j)) := (ok_int (g := fun i j => .int (i % j)) (fun _ j => 0 < j) fun _ _ _ _ _ _ => .int _).congr fun a b => by cases a <;> cases b <;> rfl
theorem okPow : BinOK ofl X dPow (rI CPow fun i j => .int (i ^ j.toNat)) := (ok_int (g := fun i j => .int (i ^ j.toNat)) (fun i j => 0 ≤ j ∧ j ≤ 1000000 ∧ i.natAbs < 2 ^ 64) fun _ _ _ _ _ _ => .int _).congr fun a b => by cases a <;> cases b <;> rfl
end
end La

set_option Elab.async false
set_option linter.all false
set_option maxRecDepth 100000
/-! La4: operations on data, further. -/
namespace La
open PySem PySem.Spec L2
section
variable {ofl : Str → Str → Bool} {X : Cx}

theorem ite_some {c : Prop} [Decidable c] {α : Type} {a z : α} (h : (if c then some a else none) = some z) : c ∧ z = a := by
  by_cases q : c
  · rw [if_pos q] at h
    exact ⟨q, (Option.some.inj h).symm⟩
  · rw [if_neg q] at h
    cases h
def r3Add (K : PySem.W.Frag) : R2 := fun x y H Q => rI0 (fun i j => .int (i + j)) x y H Q ∨ (∃ i j, x = .str i ∧ y = .str j ∧ i.length + j.length ≤ sizeLine ∧ Q (.str (i ++ j)) H) ∨ rCat x y H Q ∨ rCatA K x y H Q
theorem op3Add : OpR X (binaryOp .Add) (r3Add X.K) := op_add.or (op_add_str.or (op_cat.or op_catA))
theorem okAdd : BinOK ofl X dAdd (r3Add X.K) := by
  intro F G ι O ow σ sd M H x y d e z Q s hx hy hf k
  cases d with
  | int i =>
    cases e with
    | int j =>
      obtain rfl := hx.int
      obtain rfl := hy.int
      cases hf
      exact .inl ⟨i, j, rfl, rfl, k _ H G (Same.refl G) (Same.refl H) s (.int _)⟩
    | _ => cases hf
  | str i =>
    cases e with
    | str j =>
      obtain rfl := hx.str
      obtain rfl := hy.str
      obtain ⟨c, rfl⟩ := ite_some (c := i.length + j.length ≤ sizeLine) (a := D.str (i ++ j)) hf
      exact .inr (.inl ⟨i, j, rfl, rfl, c, k _ H G (Same.refl G) (Same.refl H) s (.str _)⟩)
    | _ => cases hf
  | lst xs =>
    cases e with
    | lst ys =>
      obtain ⟨a, vs, rfl, h1, h2⟩ := hx.lst s.wd.g
      obtain ⟨b, us, rfl, h3, h4⟩ := hy.lst s.wd.g
      obtain ⟨c, rfl⟩ := ite_some (c := xs.length + ys.length ≤ sizeLine) (a := D.lst (xs ++ ys)) hf
      refine .inr (.inr (.inl ⟨a, b, vs, us, rfl, rfl, h1, h3, by rw [h2.length, h4.length]; exact c, fun p hp => ?_⟩))
      obtain ⟨s', sg, sm, e1⟩ := s.laidG (o := .lst (vs ++ us)) hp
      exact k _ _ _ sg sm s' (.lst e1 ((h2.append h4).mono sg (Pre.refl ι)))
    | _ => cases hf
  | tup xs =>
    cases e with
    | tup ys =>
      obtain ⟨a, vs, rfl, h1, h2⟩ := hx.tup s.wd.g
      obtain ⟨b, us, rfl, h3, h4⟩ := hy.tup s.wd.g
      obtain ⟨c, rfl⟩ := ite_some (c := xs.length + ys.length ≤ sizeLine) (a := D.tup (xs ++ ys)) hf
      refine .inr (.inr (.inr ⟨a, b, vs, us, rfl, rfl, h1, h3, by rw [h2.length, h4.length]; exact c, fun z => ?_, fun _ z => ?_, fun _ _ p hp => ?_⟩))
      · subst z
        cases h2
        exact k _ H G (Same.refl G) (Same.refl H) s (by
          rcases hy with h | ⟨_, _, h⟩
          · exact h
          · exact h.elim)
      · subst z
        cases h4
        rw [List.append_nil] at *
        exact k _ H G (Same.refl G) (Same.refl H) s (by
          rcases hx with h | ⟨_, _, h⟩
          · exact h
          · exact h.elim)
      · obtain ⟨s', sg, sm, e1⟩ := s.laidG (o := .tup (vs ++ us)) hp
        exact k _ _ _ sg sm s' (.tup (.of e1) ((h2.append h4).mono sg (Pre.refl ι)))
    | _ => cases hf
  | _ => cases hf

/-! ### a * b -/
theorem foldl_cat : ∀ (n : Nat) (x : Array Nat) (acc : Array Nat), (List.replicate n x).foldl (· ++ ·) acc = acc ++ (List.replicate n x.toList).flatten.toArray
  | 0, x, acc => by simp
  | n + 1, x, acc => by
    rw [List.replicate_succ, List.foldl_cons, foldl_cat n x (acc ++ x), List.replicate_succ, List.flatten_cons, Array.append_assoc]
    congr 1
    apply Array.ext'
    simp
theorem op_mulS : OpR X (binaryOp .Mult) (fun x y H Q => ∃ (z : Str) (n : Int), x = .str z ∧ y = .int n ∧ n ≤ 1000 ∧ -1000 ≤ n ∧ z.length ≤ 1000 ∧ Q (.str ⟨(List.replicate n.toNat z.cps.toList).flatten.toArray⟩) H) := by
  intro pins s σ H x y v u Q I rx ry h
  obtain ⟨z, n, rfl, rfl, h1, h2, h3, q⟩ := h
  obtain ⟨t, rfl⟩ := rx
  obtain ⟨t', rfl⟩ := ry
  have hlen : z.length * n.toNat ≤ 1000000 := Nat.mul_le_mul h3 (by omega : n.toNat ≤ 1000)
  have e0 : (List.replicate n.toNat z.cps).foldl (· ++ ·) #[] = (List.replicate n.toNat z.cps.toList).flatten.toArray := by rw [foldl_cat]; simp
  refine PySem.P.mul_str (by simp; omega) (fun a b => ?_) (fun a b => ?_) ?_
  · intro q2
    have hn : 1 ≤ n := by omega
    have h4 : (1000 : Int) ≤ (2 ^ 63 - 1) / n := by
      rw [Int.le_ediv_iff_mul_le (by omega)]
      omega
    omega
  · unfold Builtin.Str.tooLong
    have : sizeLine = 16777216 := sizeLine_eq
    simp
    omega
  · split
    · rename_i hn
      have hz : n.toNat = 0 := by omega
      refine ⟨by decide, ?_⟩
      rw [hz] at q
      exact ⟨.str Str.empty, H, I.tok _, ⟨_, rfl⟩, q⟩
    · rename_i hn
      split
      · rename_i hc
        have hz : (⟨(List.replicate n.toNat z.cps.toList).flatten.toArray⟩ : Str) = z := by
          have hc' : n = 1 ∨ z.length = 0 := by simpa using hc
          rcases hc' with hc' | hc'
          · subst hc'
            simp
          · have e1 : z.cps.toList = [] := by
              have : z.cps.size = 0 := hc'
              simpa using this
            have e2 : z = ⟨#[]⟩ := by
              cases z with
              | mk c =>
                have : c.toList = [] := e1
                simp at this
                rw [this]
            rw [e2]
            simp
        rw [hz] at q
        exact ⟨.str z, H, I, ⟨_, rfl⟩, q⟩
      · refine ⟨?_, ?_⟩
        · rw [e0]
          have e3 : (List.replicate n.toNat z.cps.toList).flatten.length = n.toNat * z.length := by simp [Str.length]
          show (List.replicate n.toNat z.cps.toList).flatten.toArray.size ≤ sizeLine
          rw [List.size_toArray, e3, Nat.mul_comm, sizeLine_eq]
          omega
        · rw [e0]
          exact ⟨.str ⟨(List.replicate n.toNat z.cps.toList).flatten.toArray⟩, H, I.tok _, ⟨_, rfl⟩, q⟩
end
end La

set_option Elab.async false
set_option linter.all false
set_option maxRecDepth 100000
/-! La5: operations on data: products, ==, in, indices, slices, one operand. -/
namespace La
open PySem PySem.Spec L2
section
variable {ofl : Str → Str → Bool} {X : Cx}

def r3Mul : R2 := fun x y H Q => rI CMul (fun i j => .int (i * j)) x y H Q ∨ (∃ (z : Str) (n : Int), x = .str z ∧ y = .int n ∧ n ≤ 1000 ∧ -1000 ≤ n ∧ z.length ≤ 1000 ∧ Q (.str ⟨(List.replicate n.toNat z.cps.toList).flatten.toArray⟩) H) ∨ rRep x y H Q
theorem op3Mul : OpR X (binaryOp .Mult) r3Mul := op_mul.or (op_mulS.or op_rep)
theorem okMul : BinOK ofl X dMul r3Mul := by
  intro F G ι O ow σ sd M H x y d e z Q s hx hy hf k
  cases d with
  | int i =>
    cases e with
    | int j =>
      obtain rfl := hx.int
      obtain rfl := hy.int
      obtain ⟨c, rfl⟩ := ite_some (c := (-(2 ^ 64) < i ∧ i < 2 ^ 64) ∨ (-(2 ^ 64) < j ∧ j < 2 ^ 64)) (a := D.int (i * j)) hf
      exact .inl ⟨i, j, rfl, rfl, c, k _ H G (Same.refl G) (Same.refl H) s (.int _)⟩
    | _ => cases hf
  | str i =>
    cases e with
    | int j =>
      obtain rfl := hx.str
      obtain rfl := hy.int
      obtain ⟨⟨c1, c2, c3⟩, rfl⟩ := ite_some (c := j ≤ 1000 ∧ -1000 ≤ j ∧ i.length ≤ 1000) (a := D.str ⟨(List.replicate j.toNat i.cps.toList).flatten.toArray⟩) hf
      exact .inr (.inl ⟨i, j, rfl, rfl, c1, c2, c3, k _ H G (Same.refl G) (Same.refl H) s (.str _)⟩)
    | _ => cases hf
  | lst xs =>
    cases e with
    | int j =>
      obtain ⟨a, vs, rfl, h1, h2⟩ := hx.lst s.wd.g
      obtain rfl := hy.int
      obtain ⟨⟨c1, c2, c3⟩, rfl⟩ := ite_some (c := j ≤ 1000 ∧ -1000 ≤ j ∧ xs.length ≤ 1000) (a := D.lst (List.replicate j.toNat xs).flatten) hf
      have hl : vs.length * j.toNat ≤ 1000 * 1000 := Nat.mul_le_mul (by rw [h2.length]; exact c3) (by omega)
      have hz : sizeLine = 16777216 := PySem.sizeLine_eq
      refine .inr (.inr ⟨a, j, vs, rfl, rfl, h1, by omega, by omega, by omega, fun p hp => ?_⟩)
      obtain ⟨s', sg, sm, e1⟩ := s.laidG (o := .lst (List.replicate j.toNat vs).flatten) hp
      exact k _ _ _ sg sm s' (.lst e1 ((h2.rep j.toNat).mono sg (Pre.refl ι)))
    | _ => cases hf
  | _ => cases hf

/-! ### == and in -/
def rEqP (K : PySem.W.Frag) : R2 := fun x y H Q => ∃ d e : D, Dp K H x d.py ∧ Dp K H y e.py ∧ okEq d e = true ∧ Q (.bl (dEq d e)) H
def rNeP (K : PySem.W.Frag) : R2 := fun x y H Q => ∃ d e : D, Dp K H x d.py ∧ Dp K H y e.py ∧ okEq d e = true ∧ Q (.bl (!dEq d e)) H
theorem okEq_of {d e : D} (h : okEq d e = true) : d.pl = true ∧ e.pl = true ∧ min d.rk e.rk ≤ 60 := by
  unfold okEq at h
  simp only [Bool.and_eq_true, decide_eq_true_eq] at h
  exact ⟨h.1.1, h.1.2, h.2⟩
theorem op_eqP (hu : X.A.units + 64 < cLine) : OpR X (compareOp .Eq) (rEqP X.K) := by
  intro pins s σ H x y v u Q I rx ry h
  obtain ⟨d, e, hd, he, ok, q⟩ := h
  obtain ⟨o1, o2, o3⟩ := okEq_of ok
  obtain ⟨as, r1⟩ := Dp.reads I d.py x v hd rx
  obtain ⟨bs, r2⟩ := Dp.reads I e.py y u he ry
  exact SeqAt.eq_plain r1 r2 (d.py_plain o1) (e.py_plain o2) (by rw [d.py_depth, e.py_depth]; omega) ⟨.bl _, H, I, rfl, q⟩
theorem op_neP (hu : X.A.units + 64 < cLine) : OpR X (compareOp .NotEq) (rNeP X.K) := by
  intro pins s σ H x y v u Q I rx ry h
  obtain ⟨d, e, hd, he, ok, q⟩ := h
  obtain ⟨o1, o2, o3⟩ := okEq_of ok
  obtain ⟨as, r1⟩ := Dp.reads I d.py x v hd rx
  obtain ⟨bs, r2⟩ := Dp.reads I e.py y u he ry
  exact SeqAt.ne_plain r1 r2 (d.py_plain o1) (e.py_plain o2) (by rw [d.py_depth, e.py_depth]; omega) ⟨.bl _, H, I, rfl, q⟩
theorem okEqo : BinOK ofl X dEqo (rEqP X.K) := by
  intro F G ι O ow σ sd M H x y d e z Q s hx hy hf k
  obtain ⟨c, rfl⟩ := ite_some (c := okEq d e = true) (a := D.bl (dEq d e)) hf
  obtain ⟨o1, o2, o3⟩ := okEq_of c
  exact ⟨d, e, hx.dp s.wd.g o1, hy.dp s.wd.g o2, c, k _ H G (Same.refl G) (Same.refl H) s (.bl _)⟩
theorem okNeo : BinOK ofl X dNeo (rNeP X.K) := by
  intro F G ι O ow σ sd M H x y d e z Q s hx hy hf k
  obtain ⟨c, rfl⟩ := ite_some (c := okEq d e = true) (a := D.bl (!dEq d e)) hf
  obtain ⟨o1, o2, o3⟩ := okEq_of c
  exact ⟨d, e, hx.dp s.wd.g o1, hy.dp s.wd.g o2, c, k _ H G (Same.refl G) (Same.refl H) s (.bl _)⟩

theorem any_pys {d : D} : ∀ es : List D, (D.pys es).any (fun y => PyData.eqv y d.py) = es.any fun e => dEq e d
  | [] => rfl
  | e :: es => by
    show (PyData.eqv e.py d.py || (D.pys es).any fun y => PyData.eqv y d.py) = (dEq e d || es.any fun e => dEq e d)
    rw [any_pys es]
    rfl
def rInP (K : PySem.W.Frag) (neg : Bool) : R2 := fun x y H Q => ∃ (d e : D) (b : Bool), Dp K H x d.py ∧ Dp K H y e.py ∧ dMem d e = some b ∧ Q (.bl (neg ^^ b)) H
theorem dMem_of {d e : D} {b : Bool} (h : dMem d e = some b) : d.pl = true ∧ d.rk ≤ 60 ∧ ∃ es, D.pls es = true ∧ b = (es.any fun e => dEq e d) ∧ (e = .lst es ∨ e = .tup es) := by
  cases e with
  | lst es =>
    obtain ⟨c, e1⟩ := ite_some (c := (d.pl && D.pls es && decide (d.rk ≤ 60)) = true) (a := es.any fun e => dEq e d) h
    simp only [Bool.and_eq_true, decide_eq_true_eq] at c
    exact ⟨c.1.1, c.2, es, c.1.2, e1, .inl rfl⟩
  | tup es =>
    obtain ⟨c, e1⟩ := ite_some (c := (d.pl && D.pls es && decide (d.rk ≤ 60)) = true) (a := es.any fun e => dEq e d) h
    simp only [Bool.and_eq_true, decide_eq_true_eq] at c
    exact ⟨c.1.1, c.2, es, c.1.2, e1, .inr rfl⟩
  | _ => cases h
theorem op_inP (hu : X.A.units + 64 < cLine) : OpR X (compareOp .In) (rInP X.K false) := by
  intro pins s σ H x y v u Q I rx ry h
  obtain ⟨d, e, b, hd, he, ok, q⟩ := h
  obtain ⟨o1, o2, es, o3, rfl, o4⟩ := dMem_of ok
  obtain ⟨as, r1⟩ := Dp.reads I d.py x v hd rx
  obtain ⟨bs, r2⟩ := Dp.reads I e.py y u he ry
  rcases o4 with rfl | rfl
  · exact SeqAt.in_list_data (xs := D.pys es) r2 r1 (D.pys_plain es o3) (d.py_plain o1) (by rw [d.py_depth]; omega) ⟨.bl _, H, I, by rw [any_pys]; rfl, by rw [Bool.false_xor] at q; exact q⟩
  · exact SeqAt.in_tuple_data (xs := D.pys es) r2 r1 (D.pys_plain es o3) (d.py_plain o1) (by rw [d.py_depth]; omega) ⟨.bl _, H, I, by rw [any_pys]; rfl, by rw [Bool.false_xor] at q; exact q⟩
theorem op_niP (hu : X.A.units + 64 < cLine) : OpR X (compareOp .NotIn) (rInP X.K true) := by
  intro pins s σ H x y v u Q I rx ry h
  obtain ⟨d, e, b, hd, he, ok, q⟩ := h
  obtain ⟨o1, o2, es, o3, rfl, o4⟩ := dMem_of ok
  obtain ⟨as, r1⟩ := Dp.reads I d.py x v hd rx
  obtain ⟨bs, r2⟩ := Dp.reads I e.py y u he ry
  rcases o4 with rfl | rfl
  · exact SeqAt.notIn_list_data (xs := D.pys es) r2 r1 (D.pys_plain es o3) (d.py_plain o1) (by rw [d.py_depth]; omega) ⟨.bl _, H, I, by rw [any_pys]; rfl, by rw [Bool.true_xor] at q; exact q⟩
  · exact SeqAt.notIn_tuple_data (xs := D.pys es) r2 r1 (D.pys_plain es o3) (d.py_plain o1) (by rw [d.py_depth]; omega) ⟨.bl _, H, I, by rw [any_pys]; rfl, by rw [Bool.true_xor] at q; exact q⟩
theorem okInG {neg : Bool} : BinOK ofl X (fun d e => (dMem d e).map fun b => .bl (neg ^^ b)) (rInP X.K neg) := by
  intro F G ι O ow σ sd M H x y d e z Q s hx hy hf k
  obtain ⟨b, hb, rfl⟩ := Option.map_eq_some_iff.mp hf
  obtain ⟨o1, o2, es, o3, _, o4⟩ := dMem_of hb
  refine ⟨d, e, b, hx.dp s.wd.g o1, hy.dp s.wd.g (by rcases o4 with rfl | rfl <;> exact o3), hb, k _ H G (Same.refl G) (Same.refl H) s (.bl _)⟩
theorem okIn : BinOK ofl X dIn (rInP X.K false) := okInG.congr fun a b => by
  unfold dIn
  congr 1
  funext b
  rw [Bool.false_xor]
theorem okNi : BinOK ofl X dNi (rInP X.K true) := okInG.congr fun a b => by
  unfold dNi
  congr 1
  funext b
  rw [Bool.true_xor]

/-! ### indices -/
theorem IsDs.atI {K : PySem.W.Frag} {mg : Str → Option Value} {G : Hp} {ι : List Addr} {vs : List V} {ds : List D} {i : Int} {z : D} (h : IsDs K mg G ι vs ds) (e : L2.atI ds i = some z) : ∃ v, L2.atI vs i = some v ∧ IsD K mg G ι v z := by
  unfold L2.atI at e ⊢
  rw [h.length]
  cases q : ixN ds.length i with
  | none => rw [q] at e; cases e
  | some j =>
    rw [q] at e
    obtain ⟨v, h1, h2⟩ := h.get (i := j) (d := z) e
    exact ⟨v, h1, h2⟩
theorem okIx : BinOK ofl X dIx (rIx X.K) := by
  intro F G ι O ow σ sd M H x y d e z Q s hx hy hf k
  cases e with
  | int i =>
    obtain rfl := hy.int
    cases d with
    | lst ds =>
      obtain ⟨a, vs, rfl, h1, h2⟩ := hx.lst s.wd.g
      obtain ⟨v, h3, h4⟩ := h2.atI (i := i) (z := z) hf
      exact .inl ⟨a, vs, i, v, rfl, rfl, .of h1, h3, k _ H G (Same.refl G) (Same.refl H) s h4⟩
    | tup ds =>
      obtain ⟨a, vs, rfl, h1, h2⟩ := hx.tup s.wd.g
      obtain ⟨v, h3, h4⟩ := h2.atI (i := i) (z := z) hf
      exact .inr (.inl ⟨a, vs, i, v, rfl, rfl, h1, h3, k _ H G (Same.refl G) (Same.refl H) s h4⟩)
    | scr ns =>
      obtain ⟨a, rfl, h1⟩ := hx.scr s.wd.g
      obtain ⟨n, h2, rfl⟩ := Option.map_eq_some_iff.mp hf
      refine .inl ⟨a, _, i, .int n, rfl, rfl, h1, ?_, k _ H G (Same.refl G) (Same.refl H) s (.int n)⟩
      unfold L2.atI at h2 ⊢
      rw [List.length_map]
      cases q : ixN ns.length i with
      | none => rw [q] at h2; cases h2
      | some j =>
        rw [q] at h2
        have h2' : ns[j]? = some n := h2
        show (ns.map V.int)[j]? = some (.int n)
        rw [List.getElem?_map, h2']
        rfl
    | str w =>
      obtain rfl := hx.str
      obtain ⟨c, h1⟩ := ite_some' (c := w.length ≤ sizeLine) (a := (L2.atI w.cps.toList i).map fun c => D.str ⟨#[c]⟩) hf
      obtain ⟨n, h2, rfl⟩ := Option.map_eq_some_iff.mp h1
      exact .inr (.inr ⟨w, i, n, rfl, rfl, c, h2, k _ H G (Same.refl G) (Same.refl H) s (.str _)⟩)
    | _ => cases hf
  | _ => cases d <;> cases hf
where
  ite_some' {c : Prop} [Decidable c] {α : Type} {a : Option α} {z : α} (h : (if c then a else none) = some z) : c ∧ a = some z := by
    by_cases q : c
    · rw [if_pos q] at h
      exact ⟨q, h⟩
    · rw [if_neg q] at h
      cases h
def rIsN : R2 := fun x y H Q => y = .non ∧ Q (.bl (decide (x = .non))) H
theorem okIs : BinOK ofl X dIs (fun x y H Q => y = .non ∧ Q (.bl (decide (x = .non))) H) := by
  intro F G ι O ow σ sd M H x y d e z Q s hx hy hf k
  cases e with
  | non =>
    obtain rfl := hy.non
    cases hf
    refine ⟨rfl, ?_⟩
    rw [hx.none_iff]
    exact k _ H G (Same.refl G) (Same.refl H) s (.bl _)
  | _ => cases hf
theorem okIsNot : BinOK ofl X dIsNot (fun x y H Q => y = .non ∧ Q (.bl (!decide (x = .non))) H) := by
  intro F G ι O ow σ sd M H x y d e z Q s hx hy hf k
  cases e with
  | non =>
    obtain rfl := hy.non
    cases hf
    refine ⟨rfl, ?_⟩
    rw [hx.none_iff]
    exact k _ H G (Same.refl G) (Same.refl H) s (.bl _)
  | _ => cases hf

/-! ### one operand -/
theorem okLen : UnOK ofl X dLen (fun x H Q => ∃ n, LenV X.K x H n ∧ Q (.int n) H) := by
  intro F G ι O ow σ sd M H x d z Q s hx hf k
  cases d with
  | lst ds =>
    obtain ⟨a, vs, rfl, h1, h2⟩ := hx.lst s.wd.g
    cases hf
    exact ⟨_, .inl ⟨vs, .of h1, rfl⟩, by rw [h2.length]; exact k _ H G (Same.refl G) (Same.refl H) s (.int _)⟩
  | tup ds =>
    obtain ⟨a, vs, rfl, h1, h2⟩ := hx.tup s.wd.g
    cases hf
    exact ⟨_, .inr ⟨vs, h1, rfl⟩, by rw [h2.length]; exact k _ H G (Same.refl G) (Same.refl H) s (.int _)⟩
  | scr ns =>
    obtain ⟨a, rfl, h1⟩ := hx.scr s.wd.g
    cases hf
    exact ⟨_, .inl ⟨_, h1, rfl⟩, by rw [List.length_map]; exact k _ H G (Same.refl G) (Same.refl H) s (.int _)⟩
  | str w =>
    obtain rfl := hx.str
    obtain ⟨c, rfl⟩ := ite_some (c := w.length ≤ sizeLine) (a := D.int w.length) hf
    exact ⟨_, ⟨c, rfl⟩, k _ H G (Same.refl G) (Same.refl H) s (.int _)⟩
  | _ => cases hf
theorem okAbs : UnOK ofl X dAbs (fun x H Q => ∃ i, x = .int i ∧ Q (.int (if i < 0 then -i else i)) H) := by
  intro F G ι O ow σ sd M H x d z Q s hx hf k
  cases d with
  | int i =>
    obtain rfl := hx.int
    cases hf
    exact ⟨_, rfl, k _ H G (Same.refl G) (Same.refl H) s (.int _)⟩
  | _ => cases hf
theorem okNeg : UnOK ofl X dNeg (rU fun i => .int (-i)) := by
  intro F G ι O ow σ sd M H x d z Q s hx hf k
  cases d with
  | int i =>
    obtain rfl := hx.int
    cases hf
    exact ⟨_, rfl, k _ H G (Same.refl G) (Same.refl H) s (.int _)⟩
  | _ => cases hf
theorem okToInt : UnOK ofl X dToInt (fun x H Q => (∃ i, x = .int i ∧ Q (.int i) H) ∨ ∃ k, x = .bl k ∧ Q (.int (if k then 1 else 0)) H) := by
  intro F G ι O ow σ sd M H x d z Q s hx hf k
  cases d with
  | int i =>
    obtain rfl := hx.int
    cases hf
    exact .inl ⟨_, rfl, k _ H G (Same.refl G) (Same.refl H) s (.int _)⟩
  | bl i =>
    obtain rfl := hx.bl
    cases hf
    exact .inr ⟨_, rfl, k _ H G (Same.refl G) (Same.refl H) s (.int _)⟩
  | _ => cases hf
end
end La

set_option Elab.async false
set_option linter.all false
set_option maxRecDepth 100000
/-! La6: expressions by their data. -/
namespace La
open PySem PySem.Spec L2

def R.ofO {α : Type} (o : Option α) (M : Mem) : R α := match o with
  | some a => .ok a M
  | none => .bad
@[simp] theorem R.ofO_some {α : Type} (a : α) (M : Mem) : R.ofO (some a) M = .ok a M := rfl
@[simp] theorem R.ofO_none {α : Type} (M : Mem) : (R.ofO (none : Option α) M) = .bad := rfl
def sget (sd : Sd) (i : Nat) : Option D := match sd[i]? with
  | some o => o
  | none => none

/-- a changeable list or dict as it is now -/
def drf (M : Mem) (d : D) : D := match d with
  | .obj l => match M[l]? with
    | some (.lst ds) => .lst ds
    | some (.dic ks) => .dic ks
    | some (.dit ks) => .dit ks
    | _ => d
  | _ => d
@[simp] theorem drf_non (M : Mem) : drf M .non = .non := rfl
@[simp] theorem drf_bl (M : Mem) (b : Bool) : drf M (.bl b) = .bl b := rfl
@[simp] theorem drf_int (M : Mem) (b : Int) : drf M (.int b) = .int b := rfl
@[simp] theorem drf_str (M : Mem) (b : Str) : drf M (.str b) = .str b := rfl
@[simp] theorem drf_tup (M : Mem) (b : List D) : drf M (.tup b) = .tup b := rfl
@[simp] theorem drf_lst (M : Mem) (b : List D) : drf M (.lst b) = .lst b := rfl
@[simp] theorem drf_dic (M : Mem) (b : List (Key × D)) : drf M (.dic b) = .dic b := rfl
@[simp] theorem drf_dit (M : Mem) (b : List (List Key × D)) : drf M (.dit b) = .dit b := rfl
@[simp] theorem drf_scr (M : Mem) (b : List Int) : drf M (.scr b) = .scr b := rfl
@[simp] theorem drf_exn (M : Mem) (c : Str) (b : List (Str × D)) : drf M (.exn c b) = .exn c b := rfl
@[simp] theorem drf_fn (M : Mem) (b : Str) : drf M (.fn b) = .fn b := rfl
theorem drf_obj {M : Mem} {l : Nat} {ds : List D} (h : M[l]? = some (.lst ds)) : drf M (.obj l) = .lst ds := by
  simp only [drf, h]
theorem At.drf {K : PySem.W.Frag} {mg : Str → Option Value} {ofl : Str → Str → Bool} {F G : Hp} {ι : List Addr} {O : Addr → Option Own} {M : Mem} {H : Hp} {v : V} {d : D} (w : Wd K mg ofl F G ι O M H) (h : At K mg G ι H v d) : At K mg G ι H v (La.drf M d) := by
  cases d with
  | obj l =>
    unfold La.drf
    dsimp only
    cases e : M[l]? with
    | none => exact h
    | some o =>
      obtain ⟨a, h1, h2, h3⟩ := w.at_ l o e
      have hv : v = .ref a := by
        rcases h with h | ⟨_, _, h⟩
        · cases h with
          | obj q =>
            rw [h1] at q
            cases q
            rfl
        · exact h.elim
      cases o with
      | lst ds => exact .inr ⟨a, hv, h3⟩
      | dic ds => exact .inr ⟨a, hv, h3⟩
      | dit ds => exact .inr ⟨a, hv, h3⟩
      | ins c fs => exact h
  | _ => exact h
def eVar (i : Nat) : Ev := fun sd M => R.ofO (sget sd i) M
def eC (d : D) : Ev := fun _ M => .ok d M
def eBin (f : D → D → Option D) (a b : Ev) : Ev := fun sd M => (a sd M).bind fun d M1 => (b sd M1).bind fun e M2 => R.ofO (f (drf M2 d) (drf M2 e)) M2
def eUn (f : D → Option D) (a : Ev) : Ev := fun sd M => (a sd M).bind fun d M1 => R.ofO (f (drf M1 d)) M1
def aNil : Av := fun _ M => .ok [] M
def aCons (a : Ev) (r : Av) : Av := fun sd M => (a sd M).bind fun d M1 => (r sd M1).bind fun ds M2 => .ok (d :: ds) M2
def eTup (a : Av) : Ev := fun sd M => (a sd M).bind fun ds M1 => if ds.length ≤ 1000 then .ok (.tup ds) M1 else .bad
def eLst (a : Av) : Ev := fun sd M => (a sd M).bind fun ds M1 => if ds.length ≤ 1000 then .ok (.lst ds) M1 else .bad
def dB (d : D) (M : Mem) : R Bool := match d with
  | .bl k => .ok k M
  | _ => .bad
@[simp] theorem dB_bl (k : Bool) (M : Mem) : dB (.bl k) M = .ok k M := rfl
def tOf (a : Ev) : Tv := fun sd M => (a sd M).bind dB
def tAnd (a b : Tv) : Tv := fun sd M => (a sd M).bind fun k M1 => if k = true then b sd M1 else .ok false M1
def tOr (a b : Tv) : Tv := fun sd M => (a sd M).bind fun k M1 => if k = true then .ok true M1 else b sd M1
def tNot (a : Tv) : Tv := fun sd M => (a sd M).bind fun k M1 => .ok (!k) M1
def eAnd (a b : Ev) : Ev := fun sd M => (tOf a sd M).bind fun k M1 => if k = true then b sd M1 else .ok (.bl false) M1
def eOr (a b : Ev) : Ev := fun sd M => (tOf a sd M).bind fun k M1 => if k = true then .ok (.bl true) M1 else b sd M1
def eNot (a : Ev) : Ev := fun sd M => (tOf a sd M).bind fun k M1 => .ok (.bl (!k)) M1
def eIf (c : Tv) (a b : Ev) : Ev := fun sd M => (c sd M).bind fun k M1 => if k = true then a sd M1 else b sd M1
/-- a chain a < b < c -/
def eChain (f g : D → D → Option D) (a b c : Ev) : Ev := fun sd M => (a sd M).bind fun d M1 => (b sd M1).bind fun e M2 => (R.ofO (f (drf M2 d) (drf M2 e)) M2).bind fun z M3 => (dB z M3).bind fun k M4 =>
  if k = true then (c sd M4).bind fun h M5 => R.ofO (g (drf M5 e) (drf M5 h)) M5 else .ok (.bl false) M4

section
variable {K : PySem.W.Frag} {mg : Str → Option Value} {ofl : Str → Str → Bool} {W : WX} {ow : List Nat} {p : Bool} {k : Kd} {F G G1 : Hp} {ι ι1 : List Addr} {σ : L2.St} {sd : Sd} {H H1 : Hp}
theorem EPo.up {Q : VK} {r : R D} (h : EPo K mg ofl W ow p k F G ι σ sd H Q r) (sg : Same G G1) (pr : Pre ι ι1) (sm : p = true → Same H H1) : EPo K mg ofl W ow p k F G1 ι1 σ sd H1 Q r := by
  cases r with
  | bad => exact h
  | exc x M => exact fun c da H' G' ι' O' a b s e => h c da H' G' ι' O' (sg.trans a) (pr.trans b) s e
  | ok d M => exact fun v H' G' ι' O' a b s e q => h v H' G' ι' O' (sg.trans a) (pr.trans b) s e fun z => (sm z).trans (q z)
theorem TPo.up {Q : Bool → Hp → Prop} {r : R Bool} (h : TPo K mg ofl W ow p F G ι σ sd H Q r) (sg : Same G G1) (pr : Pre ι ι1) (sm : p = true → Same H H1) : TPo K mg ofl W ow p F G1 ι1 σ sd H1 Q r := by
  cases r with
  | bad => exact h
  | exc x M => exact fun c da H' G' ι' O' a b s e => h c da H' G' ι' O' (sg.trans a) (pr.trans b) s e
  | ok d M => exact fun H' G' ι' O' a b s q => h H' G' ι' O' (sg.trans a) (pr.trans b) s fun z => (sm z).trans (q z)
theorem APo.up {Q : List V → Hp → Prop} {r : R (List D)} (h : APo K mg ofl W ow p F G ι σ sd H Q r) (sg : Same G G1) (pr : Pre ι ι1) (sm : p = true → Same H H1) : APo K mg ofl W ow p F G1 ι1 σ sd H1 Q r := by
  cases r with
  | bad => exact h
  | exc x M => exact fun c da H' G' ι' O' a b s e => h c da H' G' ι' O' (sg.trans a) (pr.trans b) s e
  | ok d M => exact fun vs H' G' ι' O' a b s e q => h vs H' G' ι' O' (sg.trans a) (pr.trans b) s e fun z => (sm z).trans (q z)

/-- one expression, then what goes on with its data -/
theorem seq_e {k0 : Kd} {ev : Ev} {O : Addr → Option Own} {M : Mem} {Q : VK} {α : Type} {P : Hp → Hp → List Addr → R α → Prop} {g : D → Mem → R α} (s : SR K mg ofl ow F G ι O σ sd M H)
    (bad : ∀ H G ι, ¬ P H G ι .bad) (exc : ∀ H G ι x M', P H G ι (.exc x M') → ∀ c da H' G' ι' O', Same G G' → Pre ι ι' → SR K mg ofl ow F G' ι' O' σ sd M' H' → ExR K mg G' ι' H' x c da → W c da σ H')
    (h : P H G ι ((ev sd M).bind g))
    (n : ∀ d M' v H' G' ι' O', Same G G' → Pre ι ι' → SR K mg ofl ow F G' ι' O' σ sd M' H' → KR K mg ow G' ι' O' H' σ sd k0 v d → (p = true → Same H H') → P H G ι (g d M') → Q v H') : tev K mg ofl W ow p k0 ev σ H Q := by
  refine ⟨F, G, ι, O, sd, M, s, ?_⟩
  cases e : ev sd M with
  | bad => rw [e] at h; exact absurd h (bad _ _ _)
  | exc x M' => rw [e] at h; exact exc _ _ _ _ _ h
  | ok d M' => rw [e] at h; exact fun v H' G' ι' O' a b s' kr q => n d M' v H' G' ι' O' a b s' kr q h
end

section
variable {ofl : Str → Str → Bool} {X : Cx} {W : WX} {ow : List Nat} {p : Bool} {k ka kb kc : Kd} {e a b c : Expr} {eva evb evc : Ev}
abbrev TEv (ofl : Str → Str → Bool) (X : Cx) (W : WX) (ow : List Nat) (p : Bool) (k : Kd) (ev : Ev) : TE := tev X.K X.mg ofl W ow p k ev
theorem epo_bad {K : PySem.W.Frag} {mg : Str → Option Value} {F : Hp} {σ : L2.St} {sd : Sd} {Q : VK} : ∀ H G ι, ¬ EPo K mg ofl W ow p k F G ι σ sd H Q .bad := fun _ _ _ h => h

theorem imp_bin {f : D → D → Option D} {r : R2} (ok : BinOK ofl X f r) (hk : okK ka p = true) {σ : L2.St} {H : Hp} {Q : VK} (h : TEv ofl X W ow p .dat (eBin f eva evb) σ H Q) : tOp r (TEv ofl X W ow p ka eva) (TEv ofl X W ow p kb evb) σ H Q := by
  obtain ⟨F, G, ι, O, sd, M, s, h⟩ := h
  refine seq_e (P := fun H G ι r => EPo X.K X.mg ofl W ow p .dat F G ι σ sd H Q r) s epo_bad (fun H G ι x M' z => z) h fun d M1 x H1 G1 ι1 O1 sg1 pr1 s1 k1 q1 h1 => ?_
  refine seq_e (P := fun H G ι r => EPo X.K X.mg ofl W ow p .dat F G ι σ sd H Q r) s1 epo_bad (fun H G ι x M' z => z) (h1.up sg1 pr1 q1) fun e M2 y H2 G2 ι2 O2 sg2 pr2 s2 k2 q2 h2 => ?_
  have k1' := k1.stay (O' := O2) hk sg2 pr2 q2
  cases q : f (drf M2 d) (drf M2 e) with
  | none => rw [q] at h2; exact h2.elim
  | some z =>
    rw [q] at h2
    refine ok F G2 ι2 O2 ow σ sd M2 H2 x y _ _ z Q s2 ((k1'.at s2).drf s2.wd) ((k2.at s2).drf s2.wd) q fun v H' G' sg sm s' hv => ?_
    exact h2 v H' G' ι2 O2 (sg2.trans sg) pr2 s' hv fun t => (q2 t).trans sm
theorem pev_bin {f : D → D → Option D} {r : R2} (ok : BinOK ofl X f r) (h : ∀ ta tb, PE X a ta → PE X b tb → PE X e (tOp r ta tb)) (ha : PEv ofl X W ow p ka a eva) (hb : PEv ofl X W ow p kb b evb) (hk : okK ka p = true := by rfl) :
    PEv ofl X W ow p .dat e (eBin f eva evb) := ⟨PE.imp (h _ _ ha.pe hb.pe) fun _ _ _ => imp_bin ok hk⟩
theorem imp_un {f : D → Option D} {r : V → Hp → VK → Prop} (ok : UnOK ofl X f r) {σ : L2.St} {H : Hp} {Q : VK} (h : TEv ofl X W ow p .dat (eUn f eva) σ H Q) : TEv ofl X W ow p ka eva σ H fun x H1 => r x H1 Q := by
  obtain ⟨F, G, ι, O, sd, M, s, h⟩ := h
  refine seq_e (P := fun H G ι r => EPo X.K X.mg ofl W ow p .dat F G ι σ sd H Q r) s epo_bad (fun H G ι x M' z => z) h fun d M1 x H1 G1 ι1 O1 sg1 pr1 s1 k1 q1 h1 => ?_
  cases q : f (drf M1 d) with
  | none => rw [q] at h1; exact h1.elim
  | some z =>
    rw [q] at h1
    refine ok F G1 ι1 O1 ow σ sd M1 H1 x _ z Q s1 ((k1.at s1).drf s1.wd) q fun v H' G' sg sm s' hv => ?_
    exact h1 v H' G' ι1 O1 (sg1.trans sg) pr1 s' hv fun t => (q1 t).trans sm
theorem pev_un {f : D → Option D} {r : V → Hp → VK → Prop} (ok : UnOK ofl X f r) (h : ∀ ta, PE X a ta → PE X e (fun σ H Q => ta σ H fun x H1 => r x H1 Q)) (ha : PEv ofl X W ow p ka a eva) : PEv ofl X W ow p .dat e (eUn f eva) :=
  ⟨PE.imp (h _ ha.pe) fun _ _ _ => imp_un ok⟩

/-! ### kinds -/
theorem pev_k (i : ∀ (G : Hp) (ι : List Addr) (O : Addr → Option Own) (H : Hp) (σ : L2.St) (sd : Sd) (F : Hp) (M : Mem) (v : V) (d : D), SR X.K X.mg ofl ow F G ι O σ sd M H → KR X.K X.mg ow G ι O H σ sd ka v d → KR X.K X.mg ow G ι O H σ sd kb v d) (h : PEv ofl X W ow p ka e eva) : PEv ofl X W ow p kb e eva := by
  refine ⟨PE.imp h.pe fun σ H Q q => ?_⟩
  obtain ⟨F, G, ι, O, sd, M, s, q⟩ := q
  refine ⟨F, G, ι, O, sd, M, s, ?_⟩
  cases z : eva sd M with
  | bad => rw [z] at q; exact q
  | exc x M' => rw [z] at q; exact q
  | ok d M' => rw [z] at q; exact fun v H' G' ι' O' a b s' kr t => q v H' G' ι' O' a b s' (i _ _ _ _ _ _ _ _ _ _ s' kr) t
theorem pev_sl (h : PEv ofl X W ow p .dat e eva) : PEv ofl X W ow p .sl e eva := pev_k (ka := .dat) (kb := .sl) (fun _ _ _ _ _ _ _ _ _ _ _ z => .inl z) h
theorem pev_fp (h : PEv ofl X W ow p ka e eva) : PEv ofl X W ow p .fp e eva := pev_k (fun _ _ _ _ _ _ _ _ _ _ s z => z.at s) h
/-- a thing of one's own, from now on data -/
theorem pev_frz (h : PEv ofl X W ow p .own e eva) : PEv ofl X W ow p .dat e eva := by
  refine ⟨PE.imp h.pe fun σ H Q q => ?_⟩
  obtain ⟨F, G, ι, O, sd, M, s, q⟩ := q
  refine ⟨F, G, ι, O, sd, M, s, ?_⟩
  cases z : eva sd M with
  | bad => rw [z] at q; exact q
  | exc x M' => rw [z] at q; exact q
  | ok d M' =>
    rw [z] at q
    intro v H' G' ι' O' a b s' kr t
    obtain ⟨u, rfl, h1, h2⟩ := kr
    obtain ⟨G2, s2, sg2, i2⟩ := s'.freeze h1 h2
    exact q _ H' G2 ι' _ (a.trans sg2) b s2 i2 t
/-- what changes nothing may stand where something may be changed -/
theorem pev_np (h : PEv ofl X W ow true k e eva) : PEv ofl X W ow false k e eva := by
  refine ⟨PE.imp h.pe fun σ H Q q => ?_⟩
  obtain ⟨F, G, ι, O, sd, M, s, q⟩ := q
  refine ⟨F, G, ι, O, sd, M, s, ?_⟩
  cases z : eva sd M with
  | bad => rw [z] at q; exact q
  | exc x M' => rw [z] at q; exact q
  | ok d M' => rw [z] at q; exact fun v H' G' ι' O' a b s' kr t => q v H' G' ι' O' a b s' kr (fun z => by cases z)

/-! ### names and constants -/
theorem pev_var {i : Nat} {x : Str} {pos : Pos} (h : PE X (.Name x pos) (tVar i)) (hi : (ow.contains i) = false) : PEv ofl X W ow p .dat (.Name x pos) (eVar i) := by
  refine ⟨PE.imp h fun σ H Q q => ?_⟩
  obtain ⟨F, G, ι, O, sd, M, s, q⟩ := q
  have hi' : i ∉ ow := by simpa using hi
  unfold eVar sget at q
  cases z : sd[i]? with
  | none => rw [z] at q; exact q.elim
  | some o =>
    rw [z] at q
    cases o with
    | none => exact q.elim
    | some d =>
      obtain ⟨v, h1, h2⟩ := s.sl.2 i d z
      rw [if_neg hi'] at h2
      exact ⟨v, h1, q v H G ι O (Same.refl G) (Pre.refl ι) s h2 fun _ => Same.refl H⟩
theorem pev_own {i : Nat} {x : Str} {pos : Pos} (h : PE X (.Name x pos) (tVar i)) (hi : (ow.contains i) = true) : PEv ofl X W ow p .sl (.Name x pos) (eVar i) := by
  refine ⟨PE.imp h fun σ H Q q => ?_⟩
  obtain ⟨F, G, ι, O, sd, M, s, q⟩ := q
  have hi' : i ∈ ow := by simpa using hi
  unfold eVar sget at q
  cases z : sd[i]? with
  | none => rw [z] at q; exact q.elim
  | some o =>
    rw [z] at q
    cases o with
    | none => exact q.elim
    | some d =>
      obtain ⟨v, h1, h2⟩ := s.sl.2 i d z
      exact ⟨v, h1, q v H G ι O (Same.refl G) (Pre.refl ι) s (.inr ⟨i, hi', h1, z⟩) fun _ => Same.refl H⟩
theorem pev_c {v : V} {d : D} (h : PE X e (tC v)) (hd : ∀ (G : Hp) (ι : List Addr), IsD X.K X.mg G ι v d) : PEv ofl X W ow p .dat e (eC d) := by
  refine ⟨PE.imp h fun σ H Q q => ?_⟩
  obtain ⟨F, G, ι, O, sd, M, s, q⟩ := q
  exact q v H G ι O (Same.refl G) (Pre.refl ι) s (hd G ι) fun _ => Same.refl H
theorem pev_int {i : Int} {j pos} : PEv ofl X W ow p .dat (.Constant (.int i) j pos) (eC (.int i)) := pev_c pe_int fun _ _ => .int i
theorem pev_bl {i : Bool} {j pos} : PEv ofl X W ow p .dat (.Constant (.bool i) j pos) (eC (.bl i)) := pev_c pe_bl fun _ _ => .bl i
theorem pev_str {i : Str} {j pos} : PEv ofl X W ow p .dat (.Constant (.str i) j pos) (eC (.str i)) := pev_c pe_str fun _ _ => .str i
theorem pev_non {j pos} : PEv ofl X W ow p .dat (.Constant .none j pos) (eC .non) := pev_c pe_non fun _ _ => .non
theorem pev_glob {x : Str} {v : V} {u : Value} {d : D} {pos : Pos} (hg : Gl X x) (hm : X.mg x = some u) (r : RelV v u) (hd : ∀ (G : Hp) (ι : List Addr), IsD X.K X.mg G ι v d) (hdb : (x == ("__debug__" : Str)) = false := by decide) : PEv ofl X W ow p .dat (.Name x pos) (eC d) :=
  pev_c (pe_glob hg hm r hdb) hd

/-! ### arguments, tuples, lists -/
variable {es : List Expr} {av : Av}
theorem pav_nil : PAv ofl X W ow p [] aNil := by
  refine ⟨PA.imp pa_nil fun σ H Q q => ?_⟩
  obtain ⟨F, G, ι, O, sd, M, s, q⟩ := q
  exact q [] H G ι O (Same.refl G) (Pre.refl ι) s .nil fun _ => Same.refl H
theorem pav_cons (ha : PEv ofl X W ow p .dat e eva) (hr : PAv ofl X W ow p es av) (hs : starEach (e :: es) X.env = (false, eval e X.env) :: starEach es X.env := by rfl) : PAv ofl X W ow p (e :: es) (aCons eva av) := by
  refine ⟨PA.imp (pa_cons ha.pe hr.pa hs) fun σ H Q q => ?_⟩
  obtain ⟨F, G, ι, O, sd, M, s, h⟩ := q
  refine seq_e (P := fun H G ι r => APo X.K X.mg ofl W ow p F G ι σ sd H Q r) s (fun _ _ _ h => h) (fun H G ι x M' z => z) h fun d M1 x H1 G1 ι1 O1 sg1 pr1 s1 k1 q1 h1 => ?_
  have h1' := h1.up sg1 pr1 q1
  refine ⟨F, G1, ι1, O1, sd, M1, s1, ?_⟩
  cases z : av sd M1 with
  | bad => rw [z] at h1'; exact h1'
  | exc x M' => rw [z] at h1'; exact h1'
  | ok ds M' =>
    rw [z] at h1'
    intro vs H2 G2 ι2 O2 sg2 pr2 s2 k2 q2
    exact h1' (x :: vs) H2 G2 ι2 O2 sg2 pr2 s2 (.cons (IsD.mono sg2 pr2 k1) k2) q2
theorem line1000 {n : Nat} (h : n ≤ 1000) : n ≤ sizeLine := by
  have : sizeLine = 16777216 := PySem.sizeLine_eq
  omega
theorem pev_tup {x1} {pos : Pos} (ha : PAv ofl X W ow p es av) : PEv ofl X W ow p .dat (.Tuple es x1 pos) (eTup av) := by
  refine ⟨PE.imp (pe_tup ha.pa) fun σ H Q q => ?_⟩
  obtain ⟨F, G, ι, O, sd, M, s, h⟩ := q
  refine ⟨F, G, ι, O, sd, M, s, ?_⟩
  unfold eTup at h
  cases z : av sd M with
  | bad => rw [z] at h; exact h
  | exc x M' => rw [z] at h; exact h
  | ok ds M' =>
    rw [z] at h
    dsimp only [R.bind_ok] at h
    intro vs H1 G1 ι1 O1 sg1 pr1 s1 k1 q1
    split at h
    · rename_i hl
      refine ⟨line1000 (by rw [k1.length]; exact hl), fun a ha => ?_⟩
      obtain ⟨s2, sg2, sm2, e2⟩ := s1.laidG (o := .tup vs) ha
      exact h _ _ _ ι1 O1 (sg1.trans sg2) pr1 s2 (IsD.tup (.of e2) (k1.mono sg2 (Pre.refl _))) fun t => (q1 t).trans sm2
    · exact h.elim
theorem pev_lstO {pos : Pos} (ha : PAv ofl X W ow p es av) : PEv ofl X W ow p .own (.List es pos) (eLst av) := by
  refine ⟨PE.imp (pe_lst ha.pa) fun σ H Q q => ?_⟩
  obtain ⟨F, G, ι, O, sd, M, s, h⟩ := q
  refine ⟨F, G, ι, O, sd, M, s, ?_⟩
  unfold eLst at h
  cases z : av sd M with
  | bad => rw [z] at h; exact h
  | exc x M' => rw [z] at h; exact h
  | ok ds M' =>
    rw [z] at h
    dsimp only [R.bind_ok] at h
    intro vs H1 G1 ι1 O1 sg1 pr1 s1 k1 q1
    split at h
    · rename_i hl
      refine ⟨line1000 (by rw [k1.length]; exact hl), fun a ha => ?_⟩
      obtain ⟨s2, sm2⟩ := s1.laidT (o := .lst vs) ha
      exact h _ _ _ ι1 _ sg1 pr1 s2 ⟨a, rfl, updO_same, vs, upd_same, k1⟩ fun t => (q1 t).trans sm2
    · exact h.elim
theorem pev_lst {pos : Pos} (ha : PAv ofl X W ow p es av) : PEv ofl X W ow p .dat (.List es pos) (eLst av) := pev_frz (pev_lstO ha)

/-! ### tests -/
variable {ta tb : Tv}
theorem imp_test {σ : L2.St} {H : Hp} {Q : Bool → Hp → Prop} (h : ttv X.K X.mg ofl W ow p (tOf eva) σ H Q) : TEv ofl X W ow p ka eva σ H fun x H' => ∃ k, x = .bl k ∧ Q k H' := by
  obtain ⟨F, G, ι, O, sd, M, s, h⟩ := h
  refine seq_e (P := fun H G ι r => TPo X.K X.mg ofl W ow p F G ι σ sd H Q r) s (fun _ _ _ h => h) (fun H G ι x M' z => z) h fun d M1 x H1 G1 ι1 O1 sg1 pr1 s1 k1 q1 h1 => ?_
  cases d with
  | bl k =>
    obtain rfl := (k1.at s1).bl
    exact ⟨k, rfl, h1 H1 G1 ι1 O1 sg1 pr1 s1 q1⟩
  | _ => exact h1.elim
/-- a comparison as a test -/
theorem ptv_bin {f : D → D → Option D} {r : R2} (ok : BinOK ofl X f r) (h : ∀ ta tb, PE X a ta → PE X b tb → PT X e (tTest (tOp r ta tb))) (ha : PEv ofl X W ow p ka a eva) (hb : PEv ofl X W ow p kb b evb) (hk : okK ka p = true := by rfl) :
    PTv ofl X W ow p e (tOf (eBin f eva evb)) := ⟨PT.imp (h _ _ ha.pe hb.pe) fun _ _ _ q => imp_bin ok hk (imp_test q)⟩
theorem ptv_val (ha : PEv ofl X W ow p ka e eva) (he : ∀ whole, isTrue e X.env whole = (do let v ← whole; standAt e.pos; holding [v] (truthy v)) := by intro _; rfl) : PTv ofl X W ow p e (tOf eva) :=
  ⟨PT.imp (pt_val ha.pe he) fun _ _ _ q => imp_test q⟩
structure PWv (ofl : Str → Str → Bool) (X : Cx) (W : WX) (ow : List Nat) (p : Bool) (e : Expr) (ev : Tv) : Prop where
  pw : PW X e (ttv X.K X.mg ofl W ow p ev)
theorem PW.imp {X : Cx} {e : Expr} {t u : TT} (h : PW X e t) (i : ∀ σ H Q, u σ H Q → t σ H Q) : PW X e u := ⟨fun wh pins s σ H Q I q => h.run wh pins s σ H Q I (i σ H Q q)⟩
theorem ptv_w (h : PWv ofl X W ow p e ta) : PTv ofl X W ow p e ta := ⟨h.pw.pt⟩
/-- one test, then what goes on -/
theorem seq_t {K : PySem.W.Frag} {mg : Str → Option Value} {F G : Hp} {ι : List Addr} {σ : L2.St} {sd : Sd} {H : Hp} {ev : Tv} {O : Addr → Option Own} {M : Mem} {Q : Bool → Hp → Prop} {α : Type} {P : R α → Prop} {g : Bool → Mem → R α} (s : SR K mg ofl ow F G ι O σ sd M H)
    (bad : ¬ P .bad) (exc : ∀ x M', P (.exc x M') → ∀ c da H' G' ι' O', Same G G' → Pre ι ι' → SR K mg ofl ow F G' ι' O' σ sd M' H' → ExR K mg G' ι' H' x c da → W c da σ H')
    (h : P ((ev sd M).bind g))
    (n : ∀ d M' H' G' ι' O', Same G G' → Pre ι ι' → SR K mg ofl ow F G' ι' O' σ sd M' H' → (p = true → Same H H') → P (g d M') → Q d H') : ttv K mg ofl W ow p ev σ H Q := by
  refine ⟨F, G, ι, O, sd, M, s, ?_⟩
  cases e : ev sd M with
  | bad => rw [e] at h; exact absurd h bad
  | exc x M' => rw [e] at h; exact exc _ _ h
  | ok d M' => rw [e] at h; exact fun H' G' ι' O' a b s' q => n d M' H' G' ι' O' a b s' q h
theorem pwv_and1 {pos : Pos} (ha : PTv ofl X W ow p a ta) : PWv ofl X W ow p (.BoolOp .And [a] pos) ta := ⟨pw_and1 ha.pt⟩
theorem pwv_or1 {pos : Pos} (ha : PTv ofl X W ow p a ta) : PWv ofl X W ow p (.BoolOp .Or [a] pos) ta := ⟨pw_or1 ha.pt⟩
variable {rest : List Expr}
theorem pwv_and {pos : Pos} (ha : PTv ofl X W ow p a ta) (hb : PWv ofl X W ow p (.BoolOp .And (b :: rest) pos) tb) : PWv ofl X W ow p (.BoolOp .And (a :: b :: rest) pos) (tAnd ta tb) := by
  refine ⟨PW.imp (pw_and ha.pt hb.pw) fun σ H Q q => ?_⟩
  obtain ⟨F, G, ι, O, sd, M, s, h⟩ := q
  refine seq_t (P := fun r => TPo X.K X.mg ofl W ow p F G ι σ sd H Q r) s (fun h => h) (fun x M' z => z) h fun k M1 H1 G1 ι1 O1 sg1 pr1 s1 q1 h1 => ?_
  cases k with
  | true => rw [if_pos rfl] at h1 ⊢; exact ⟨F, G1, ι1, O1, sd, M1, s1, h1.up sg1 pr1 q1⟩
  | false => rw [if_neg Bool.false_ne_true] at h1 ⊢; exact h1 H1 G1 ι1 O1 sg1 pr1 s1 q1
theorem pwv_or {pos : Pos} (ha : PTv ofl X W ow p a ta) (hb : PWv ofl X W ow p (.BoolOp .Or (b :: rest) pos) tb) : PWv ofl X W ow p (.BoolOp .Or (a :: b :: rest) pos) (tOr ta tb) := by
  refine ⟨PW.imp (pw_or ha.pt hb.pw) fun σ H Q q => ?_⟩
  obtain ⟨F, G, ι, O, sd, M, s, h⟩ := q
  refine seq_t (P := fun r => TPo X.K X.mg ofl W ow p F G ι σ sd H Q r) s (fun h => h) (fun x M' z => z) h fun k M1 H1 G1 ι1 O1 sg1 pr1 s1 q1 h1 => ?_
  cases k with
  | false => rw [if_neg Bool.false_ne_true] at h1 ⊢; exact ⟨F, G1, ι1, O1, sd, M1, s1, h1.up sg1 pr1 q1⟩
  | true => rw [if_pos rfl] at h1 ⊢; exact h1 H1 G1 ι1 O1 sg1 pr1 s1 q1
theorem ptv_not {pos : Pos} (ha : PTv ofl X W ow p a ta) : PTv ofl X W ow p (.UnaryOp .Not a pos) (tNot ta) := by
  refine ⟨PT.imp (pt_not ha.pt) fun σ H Q q => ?_⟩
  obtain ⟨F, G, ι, O, sd, M, s, h⟩ := q
  exact seq_t (P := fun r => TPo X.K X.mg ofl W ow p F G ι σ sd H Q r) s (fun h => h) (fun x M' z => z) h fun k M1 H1 G1 ι1 O1 sg1 pr1 s1 q1 h1 => h1 H1 G1 ι1 O1 sg1 pr1 s1 q1

/-! ### and, or, not, if as values -/
theorem pev_one {op} {pos : Pos} (h : PEv ofl X W ow p k a eva) : PEv ofl X W ow p k (.BoolOp op [a] pos) eva := ⟨pe_one h.pe⟩
/-- a test's data -/
theorem seq_b {F G : Hp} {ι : List Addr} {σ : L2.St} {sd : Sd} {H : Hp} {O : Addr → Option Own} {M : Mem} {Q : VK} {g : Bool → Mem → R D} {kk : Kd} (s : SR X.K X.mg ofl ow F G ι O σ sd M H)
    (h : EPo X.K X.mg ofl W ow p kk F G ι σ sd H Q ((tOf eva sd M).bind g)) {Q' : VK}
    (n : ∀ d M' H' G' ι' O', Same G G' → Pre ι ι' → SR X.K X.mg ofl ow F G' ι' O' σ sd M' H' → (p = true → Same H H') → EPo X.K X.mg ofl W ow p kk F G ι σ sd H Q (g d M') → Q' (.bl d) H') : TEv ofl X W ow p ka eva σ H Q' := by
  refine seq_e (P := fun H G ι r => EPo X.K X.mg ofl W ow p kk F G ι σ sd H Q r) (g := fun d M => (dB d M).bind g) s epo_bad (fun H G ι x M' z => z) ?_ fun d M1 x H1 G1 ι1 O1 sg1 pr1 s1 k1 q1 h1 => ?_
  · unfold tOf at h
    cases z : eva sd M with
    | bad => rw [z] at h; exact h
    | exc x M' => rw [z] at h; exact h
    | ok d M' => rw [z] at h; exact h
  · cases d with
    | bl k =>
      obtain rfl := (k1.at s1).bl
      exact n k M1 H1 G1 ι1 O1 sg1 pr1 s1 q1 h1
    | _ => exact h1.elim
theorem pev_and {pos : Pos} (ha : PEv ofl X W ow p ka a eva) (hb : PEv ofl X W ow p .dat (.BoolOp .And (b :: rest) pos) evb) : PEv ofl X W ow p .dat (.BoolOp .And (a :: b :: rest) pos) (eAnd eva evb) := by
  refine ⟨PE.imp (pe_and ha.pe hb.pe) fun σ H Q q => ?_⟩
  obtain ⟨F, G, ι, O, sd, M, s, h⟩ := q
  refine seq_b s h fun k M1 H1 G1 ι1 O1 sg1 pr1 s1 q1 h1 => ⟨k, rfl, ?_⟩
  cases k with
  | true => rw [if_pos rfl] at h1 ⊢; exact ⟨F, G1, ι1, O1, sd, M1, s1, h1.up sg1 pr1 q1⟩
  | false => rw [if_neg Bool.false_ne_true] at h1 ⊢; exact h1 _ H1 G1 ι1 O1 sg1 pr1 s1 (.bl _) q1
theorem pev_or {pos : Pos} (ha : PEv ofl X W ow p ka a eva) (hb : PEv ofl X W ow p .dat (.BoolOp .Or (b :: rest) pos) evb) : PEv ofl X W ow p .dat (.BoolOp .Or (a :: b :: rest) pos) (eOr eva evb) := by
  refine ⟨PE.imp (pe_or ha.pe hb.pe) fun σ H Q q => ?_⟩
  obtain ⟨F, G, ι, O, sd, M, s, h⟩ := q
  refine seq_b s h fun k M1 H1 G1 ι1 O1 sg1 pr1 s1 q1 h1 => ⟨k, rfl, ?_⟩
  cases k with
  | true => rw [if_pos rfl] at h1 ⊢; exact h1 _ H1 G1 ι1 O1 sg1 pr1 s1 (.bl _) q1
  | false => rw [if_neg Bool.false_ne_true] at h1 ⊢; exact ⟨F, G1, ι1, O1, sd, M1, s1, h1.up sg1 pr1 q1⟩
theorem pev_not {pos : Pos} (ha : PEv ofl X W ow p ka a eva) : PEv ofl X W ow p .dat (.UnaryOp .Not a pos) (eNot eva) := by
  refine ⟨PE.imp (pe_not ha.pe) fun σ H Q q => ?_⟩
  obtain ⟨F, G, ι, O, sd, M, s, h⟩ := q
  exact seq_b s h fun k M1 H1 G1 ι1 O1 sg1 pr1 s1 q1 h1 => ⟨k, rfl, h1 _ H1 G1 ι1 O1 sg1 pr1 s1 (.bl _) q1⟩
theorem pev_if {pos : Pos} (hc : PTv ofl X W ow p c ta) (ha : PEv ofl X W ow p k a eva) (hb : PEv ofl X W ow p k b evb) : PEv ofl X W ow p k (.IfExp c a b pos) (eIf ta eva evb) := by
  refine ⟨PE.imp (pe_ifExp hc.pt ha.pe hb.pe) fun σ H Q q => ?_⟩
  obtain ⟨F, G, ι, O, sd, M, s, h⟩ := q
  refine seq_t (P := fun r => EPo X.K X.mg ofl W ow p k F G ι σ sd H Q r) s (fun h => h) (fun x M' z => z) h fun k M1 H1 G1 ι1 O1 sg1 pr1 s1 q1 h1 => ?_
  cases k with
  | true => rw [if_pos rfl] at h1 ⊢; exact ⟨F, G1, ι1, O1, sd, M1, s1, h1.up sg1 pr1 q1⟩
  | false => rw [if_neg Bool.false_ne_true] at h1 ⊢; exact ⟨F, G1, ι1, O1, sd, M1, s1, h1.up sg1 pr1 q1⟩
end
end La

set_option Elab.async false
set_option linter.all false
set_option maxRecDepth 100000
/-! La7: statements by their data. -/
namespace La
open PySem PySem.Spec L2

def R.toF {α : Type} (r : R α) (sd : Sd) (k : α → Mem → La.F) : La.F := match r with
  | .ok a M => k a M
  | .exc x M => .exc x sd M
  | .bad => .bad
@[simp] theorem R.toF_ok {α : Type} (a : α) (M : Mem) (sd : Sd) (k : α → Mem → La.F) : (R.ok a M).toF sd k = k a M := rfl
@[simp] theorem R.toF_exc {α : Type} (x : Exn) (M : Mem) (sd : Sd) (k : α → Mem → La.F) : (R.exc x M : R α).toF sd k = .exc x sd M := rfl
@[simp] theorem R.toF_bad {α : Type} (sd : Sd) (k : α → Mem → La.F) : (R.bad : R α).toF sd k = .bad := rfl
def F.thn (f : La.F) (k : Sd → Mem → La.F) : La.F := match f with
  | .nx sd M => k sd M
  | f => f
@[simp] theorem F.thn_nx (sd : Sd) (M : Mem) (k : Sd → Mem → La.F) : (F.nx sd M).thn k = k sd M := rfl
@[simp] theorem F.thn_ret (d : D) (M : Mem) (k : Sd → Mem → La.F) : (F.ret d M).thn k = .ret d M := rfl
@[simp] theorem F.thn_brk (sd : Sd) (M : Mem) (k : Sd → Mem → La.F) : (F.brk sd M).thn k = .brk sd M := rfl
@[simp] theorem F.thn_cnt (sd : Sd) (M : Mem) (k : Sd → Mem → La.F) : (F.cnt sd M).thn k = .cnt sd M := rfl
@[simp] theorem F.thn_exc (x : Exn) (sd : Sd) (M : Mem) (k : Sd → Mem → La.F) : (F.exc x sd M).thn k = .exc x sd M := rfl
@[simp] theorem F.thn_bad (k : Sd → Mem → La.F) : (F.bad).thn k = .bad := rfl

def sNx : Sv := fun sd M => .nx sd M
def sBrk : Sv := fun sd M => .brk sd M
def sCnt : Sv := fun sd M => .cnt sd M
def sSet (i : Nat) (a : Ev) : Sv := fun sd M => (a sd M).toF sd fun d M1 => .nx (sd.set i (some d)) M1
def sDo (a : Ev) : Sv := fun sd M => (a sd M).toF sd fun _ M1 => .nx sd M1
def sRet (a : Ev) : Sv := fun sd M => (a sd M).toF sd fun d M1 => .ret d M1
def sRetN : Sv := fun _ M => .ret .non M
def sSeq (a b : Sv) : Sv := fun sd M => (a sd M).thn b
def sIf (c : Tv) (a b : Sv) : Sv := fun sd M => (c sd M).toF sd fun k M1 => if k = true then a sd M1 else b sd M1
def sAug (f : D → D → Option D) (i : Nat) (a : Ev) : Sv := sSet i (eBin f (eVar i) a)
abbrev Tg := D → Sd → Option Sd
def gN (i : Nat) : Tg := fun d sd => some (sd.set i (some d))
def gNone : List D → Sd → Option Sd
  | [], sd => some sd
  | _, _ => none
def gMore (g : Tg) (r : List D → Sd → Option Sd) : List D → Sd → Option Sd
  | d :: ds, sd => (g d sd).bind fun sd1 => r ds sd1
  | [], _ => none
def gT (n : Nat) (r : List D → Sd → Option Sd) : Tg := fun d sd => match d with
  | .tup ds => if ds.length = n then r ds sd else none
  | _ => none
def sAsg (g : Tg) (a : Ev) : Sv := fun sd M => (a sd M).toF sd fun d M1 => match g d sd with
  | some sd1 => .nx sd1 M1
  | none => .bad
abbrev Iv := Sd → Mem → R (List D)
def forD (g : Tg) (b : Sv) : List D → Sd → Mem → La.F
  | [], sd, M => .nx sd M
  | d :: ds, sd, M => match g d sd with
    | none => .bad
    | some sd1 => match b sd1 M with
      | .nx sd2 M2 => forD g b ds sd2 M2
      | .cnt sd2 M2 => forD g b ds sd2 M2
      | .brk sd2 M2 => .nx sd2 M2
      | .ret d M2 => .ret d M2
      | .exc x sd2 M2 => .exc x sd2 M2
      | .bad => .bad
def sFor (it : Iv) (g : Tg) (b : Sv) : Sv := fun sd M => (it sd M).toF sd fun ds M1 => forD g b ds sd M1
def whN (c : Tv) (b : Sv) : Nat → Sd → Mem → La.F
  | 0, _, _ => .bad
  | n + 1, sd, M => match c sd M with
    | .bad => .bad
    | .exc x M1 => .exc x sd M1
    | .ok false M1 => .nx sd M1
    | .ok true M1 => match b sd M1 with
      | .nx sd2 M2 => whN c b n sd2 M2
      | .cnt sd2 M2 => whN c b n sd2 M2
      | .brk sd2 M2 => .nx sd2 M2
      | .ret d M2 => .ret d M2
      | .exc x sd2 M2 => .exc x sd2 M2
      | .bad => .bad
open Classical in
noncomputable def sWhile (c : Tv) (b : Sv) : Sv := fun sd M => if h : ∃ n, whN c b n sd M ≠ .bad then whN c b (choose h) sd M else .bad
theorem whN_succ {c : Tv} {b : Sv} : ∀ {n : Nat} {sd : Sd} {M : Mem}, whN c b n sd M ≠ .bad → whN c b (n + 1) sd M = whN c b n sd M
  | 0, _, _, h => absurd rfl h
  | n + 1, sd, M, h => by
    rw [whN] at h
    rw [whN, whN]
    cases e : c sd M with
    | bad => rfl
    | exc x M1 => rfl
    | ok k M1 =>
      rw [e] at h
      cases k with
      | false => rfl
      | true =>
        dsimp only at h ⊢
        cases e2 : b sd M1 with
        | nx sd2 M2 => rw [e2] at h; exact whN_succ h
        | cnt sd2 M2 => rw [e2] at h; exact whN_succ h
        | _ => rfl
theorem whN_le {c : Tv} {b : Sv} {n m : Nat} {sd : Sd} {M : Mem} (h : whN c b n sd M ≠ .bad) (l : n ≤ m) : whN c b m sd M = whN c b n sd M := by
  induction l with
  | refl => rfl
  | step l ih => rw [whN_succ (by rw [ih]; exact h), ih]
theorem sWhile_eq {c : Tv} {b : Sv} {n : Nat} {sd : Sd} {M : Mem} {r : La.F} (h : whN c b n sd M = r) (hr : r ≠ .bad) : sWhile c b sd M = r := by
  have q : ∃ n, whN c b n sd M ≠ .bad := ⟨n, by rw [h]; exact hr⟩
  unfold sWhile
  rw [dif_pos q]
  have q2 := Classical.choose_spec q
  rcases Nat.le_total n (Classical.choose q) with l | l
  · rw [whN_le (by rw [h]; exact hr) l, h]
  · rw [← whN_le q2 l, h]
theorem sWhile_ex {c : Tv} {b : Sv} {sd : Sd} {M : Mem} (h : sWhile c b sd M ≠ .bad) : ∃ n, whN c b n sd M = sWhile c b sd M := by
  unfold sWhile at h ⊢
  split at h
  · rename_i q
    rw [dif_pos q]
    exact ⟨_, rfl⟩
  · exact absurd rfl h

section
variable {K : PySem.W.Frag} {mg : Str → Option Value} {ofl : Str → Str → Bool} {W : WX} {ow ow' : List Nat} {ro : Bool} {F G G1 : Hp} {ι ι1 : List Addr}
theorem SPo.up {E : Ends} {r : La.F} (h : SPo K mg ofl W ow ow' ro F G ι E r) (sg : Same G G1) (pr : Pre ι ι1) : SPo K mg ofl W ow ow' ro F G1 ι1 E r := by
  cases r with
  | bad => exact h
  | exc x sd M => exact fun c da σ' H' G' ι' O' a b s e => h c da σ' H' G' ι' O' (sg.trans a) (pr.trans b) s e
  | nx sd M => exact fun σ' H' G' ι' O' a b s => h σ' H' G' ι' O' (sg.trans a) (pr.trans b) s
  | brk sd M => exact fun σ' H' G' ι' O' a b s => h σ' H' G' ι' O' (sg.trans a) (pr.trans b) s
  | cnt sd M => exact fun σ' H' G' ι' O' a b s => h σ' H' G' ι' O' (sg.trans a) (pr.trans b) s
  | ret d M => exact fun v H' G' ι' O' a b s e => h v H' G' ι' O' (sg.trans a) (pr.trans b) s e
end
section
variable {K : PySem.W.Frag} {mg : Str → Option Value} {ofl : Str → Str → Bool} {F G : Hp} {ι : List Addr} {O : Addr → Option Own} {M : Mem} {H : Hp} {ow : List Nat} {σ : L2.St} {sd : Sd}
/-- a name gets data -/
theorem SR.set (s : SR K mg ofl ow F G ι O σ sd M H) {i : Nat} (hi : i ∉ ow) {v : V} {d : D} (h : IsD K mg G ι v d) : SR K mg ofl ow F G ι O (σ.set i (some v)) (sd.set i (some d)) M H := by
  refine ⟨s.wd, by rw [List.length_set, List.length_set]; exact s.sl.1, fun j e hj => ?_⟩
  by_cases q : i = j
  · subst q
    have hl : i < sd.length := by
      have := (List.getElem?_eq_some_iff.mp hj).1
      rwa [List.length_set] at this
    rw [List.getElem?_set_self hl] at hj
    cases hj
    refine ⟨v, List.getElem?_set_self (by rw [s.sl.1]; exact hl), ?_⟩
    rw [if_neg hi]
    exact h
  · rw [List.getElem?_set_ne q] at hj
    obtain ⟨u, h1, h2⟩ := s.sl.2 j e hj
    exact ⟨u, by rw [List.getElem?_set_ne q]; exact h1, h2⟩
/-- a name gets a thing of its own -/
theorem SR.setO (s : SR K mg ofl ow F G ι O σ sd M H) {i : Nat} (hi : i ∈ ow) {b : Addr} {d : D} (hb : O b = some .tmp) (h : Cn K mg G ι H b d) : SR K mg ofl ow F G ι (updO O b (some (.slot i))) (σ.set i (some (.ref b))) (sd.set i (some d)) M H := by
  have s' : SR K mg ofl ow F G ι (updO O b (some (.slot i))) σ sd M H := by
    refine s.go (Same.refl G) s.wd.g s.wd.f (fun a e => ?_) s.wd.gf fun a o e n => ⟨?_, rfl⟩
    · by_cases q : a = b
      · subst q
        exact s.wd.og a (by rw [hb]; simp)
      · rw [updO_ne q] at e
        exact s.wd.og a e
    · rw [updO_ne (fun q => n (by rw [q, hb] at e; cases e; rfl))]
      exact e
  refine ⟨s'.wd, by rw [List.length_set, List.length_set]; exact s.sl.1, fun j e hj => ?_⟩
  by_cases q : i = j
  · subst q
    have hl : i < sd.length := by
      have := (List.getElem?_eq_some_iff.mp hj).1
      rwa [List.length_set] at this
    rw [List.getElem?_set_self hl] at hj
    cases hj
    refine ⟨.ref b, List.getElem?_set_self (by rw [s.sl.1]; exact hl), ?_⟩
    rw [if_pos hi]
    exact ⟨b, rfl, updO_same, h⟩
  · rw [List.getElem?_set_ne q] at hj
    obtain ⟨u, h1, h2⟩ := s'.sl.2 j e hj
    exact ⟨u, by rw [List.getElem?_set_ne q]; exact h1, h2⟩
/-- a name's own thing is changed -/
theorem SR.wslot (s : SR K mg ofl ow F G ι O σ sd M H) {i : Nat} (hi : i ∈ ow) {d : D} (hd : sd[i]? = some (some d)) : ∃ b, σ[i]? = some (some (.ref b)) ∧ Cn K mg G ι H b d ∧ G b = none ∧
    ∀ (o : HO) (d' : D), Cn K mg G ι (upd H b o) b d' → SR K mg ofl ow F G ι O σ (sd.set i (some d')) M (upd H b o) := by
  obtain ⟨v, h1, h2⟩ := s.sl.2 i d hd
  rw [if_pos hi] at h2
  obtain ⟨b, rfl, h3, h4⟩ := h2
  obtain ⟨g1, g2, g3⟩ := s.wd.og b (by rw [h3]; simp)
  refine ⟨b, h1, h4, g1, fun o d' c => ?_⟩
  have w' : Wd K mg ofl F G ι O M (upd H b o) := by
    refine s.wd.go (Same.refl G) (Same.put s.wd.g g1) (Same.put s.wd.f g2) (fun a e => ?_) s.wd.gf fun a u e z => ⟨e, upd_ne fun q => ?_⟩
    · obtain ⟨e1, e2, e3⟩ := s.wd.og a e
      refine ⟨e1, e2, ?_⟩
      by_cases q : a = b
      · rw [q, upd_same]; simp
      · rw [upd_ne q]; exact e3
    · rw [q, h3] at e
      cases e
      rcases z with ⟨l, z⟩ | ⟨l, f, z⟩ <;> cases z
  refine ⟨w', by rw [List.length_set]; exact s.sl.1, fun j e hj => ?_⟩
  by_cases q : i = j
  · subst q
    have hl : i < sd.length := (List.getElem?_eq_some_iff.mp hd).1
    rw [List.getElem?_set_self hl] at hj
    cases hj
    refine ⟨.ref b, h1, ?_⟩
    rw [if_pos hi]
    exact ⟨b, rfl, h3, c⟩
  · rw [List.getElem?_set_ne q] at hj
    obtain ⟨u, h5, h6⟩ := s.sl.2 j e hj
    refine ⟨u, h5, ?_⟩
    split at h6
    · rename_i hj'
      rw [if_pos hj']
      obtain ⟨b2, e1, e2, e3⟩ := h6
      refine ⟨b2, e1, e2, e3.mono (Same.refl G) (Pre.refl ι) (upd_ne fun z => ?_)⟩
      rw [z, h3] at e2
      cases e2
      exact q rfl
    · rename_i hj'
      rw [if_neg hj']
      exact h6
end

section
variable {ofl : Str → Str → Bool} {X : Cx} {W : WX} {ow ow1 ow' : List Nat} {ro : Bool} {p : Bool} {k : Kd} {e : Expr} {ev : Ev} {st : Stmt} {rest : List Stmt} {sv tv : Sv} {pos : Pos}
/-- an expression in a statement, then what goes on -/
theorem seq_s {F G : Hp} {ι : List Addr} {O : Addr → Option Own} {σ : L2.St} {sd : Sd} {M : Mem} {H : Hp} {E : Ends} {g : D → Mem → La.F} {Q : VK} (s : SR X.K X.mg ofl ow F G ι O σ sd M H)
    (h : SPo X.K X.mg ofl W ow ow' ro F G ι E ((ev sd M).toF sd g))
    (n : ∀ d M' v H' G' ι' O', Same G G' → Pre ι ι' → SR X.K X.mg ofl ow F G' ι' O' σ sd M' H' → KR X.K X.mg ow G' ι' O' H' σ sd k v d → SPo X.K X.mg ofl W ow ow' ro F G ι E (g d M') → Q v H') : TEv ofl X W ow p k ev σ H Q := by
  refine ⟨F, G, ι, O, sd, M, s, ?_⟩
  cases e : ev sd M with
  | bad => rw [e] at h; exact h
  | exc x M' => rw [e] at h; exact fun c da H' G' ι' O' a b s' q => h c da σ H' G' ι' O' a b s' q
  | ok d M' => rw [e] at h; exact fun v H' G' ι' O' a b s' kr q => n d M' v H' G' ι' O' a b s' kr h
theorem seq_st {F G : Hp} {ι : List Addr} {O : Addr → Option Own} {σ : L2.St} {sd : Sd} {M : Mem} {H : Hp} {E : Ends} {g : Bool → Mem → La.F} {Q : Bool → Hp → Prop} {c : Tv} (s : SR X.K X.mg ofl ow F G ι O σ sd M H)
    (h : SPo X.K X.mg ofl W ow ow' ro F G ι E ((c sd M).toF sd g))
    (n : ∀ d M' H' G' ι' O', Same G G' → Pre ι ι' → SR X.K X.mg ofl ow F G' ι' O' σ sd M' H' → SPo X.K X.mg ofl W ow ow' ro F G ι E (g d M') → Q d H') : ttv X.K X.mg ofl W ow p c σ H Q := by
  refine ⟨F, G, ι, O, sd, M, s, ?_⟩
  cases e : c sd M with
  | bad => rw [e] at h; exact h
  | exc x M' => rw [e] at h; exact fun c da H' G' ι' O' a b s' q => h c da σ H' G' ι' O' a b s' q
  | ok d M' => rw [e] at h; exact fun H' G' ι' O' a b s' q => n d M' H' G' ι' O' a b s' h

theorem psv_set {i : Nat} {x : Str} {pos' : Pos} (h : ∀ te, PE X e te → PS X (.Assign [.Name x pos'] e pos) (tAsg te (gName i))) (he : PEv ofl X W ow p .dat e ev) (hi : ow.contains i = false) : PSv ofl X W ow ow ro (.Assign [.Name x pos'] e pos) (sSet i ev) := by
  refine ⟨PS.imp (h _ he.pe) fun E σ H q => ?_⟩
  obtain ⟨F, G, ι, O, sd, M, s, q⟩ := q
  exact seq_s s q fun d M1 v H1 G1 ι1 O1 sg1 pr1 s1 k1 h1 => h1 _ H1 G1 ι1 O1 sg1 pr1 (s1.set (by simpa using hi) k1)
theorem psv_setO {i : Nat} {x : Str} {pos' : Pos} (h : ∀ te, PE X e te → PS X (.Assign [.Name x pos'] e pos) (tAsg te (gName i))) (he : PEv ofl X W ow p .own e ev) (hi : ow.contains i = true) : PSv ofl X W ow ow ro (.Assign [.Name x pos'] e pos) (sSet i ev) := by
  refine ⟨PS.imp (h _ he.pe) fun E σ H q => ?_⟩
  obtain ⟨F, G, ι, O, sd, M, s, q⟩ := q
  refine seq_s s q fun d M1 v H1 G1 ι1 O1 sg1 pr1 s1 k1 h1 => ?_
  obtain ⟨b, rfl, h2, h3⟩ := k1
  exact h1 _ H1 G1 ι1 _ sg1 pr1 (s1.setO (by simpa using hi) h2 h3)
theorem psv_do (he : PEv ofl X W ow p k e ev) (hs : swapsWith e none pos.line X.env = pure false := by rfl) : PSv ofl X W ow ow ro (.Expr e pos) (sDo ev) := by
  refine ⟨PS.imp (ps_expr he.pe hs) fun E σ H q => ?_⟩
  obtain ⟨F, G, ι, O, sd, M, s, q⟩ := q
  exact seq_s s q fun d M1 v H1 G1 ι1 O1 sg1 pr1 s1 k1 h1 => h1 σ H1 G1 ι1 O1 sg1 pr1 s1
theorem psv_ret (he : PEv ofl X W ow p .dat e ev) : PSv ofl X W ow ow' false (.Return (some e) pos) (sRet ev) := by
  refine ⟨PS.imp (ps_ret he.pe) fun E σ H q => ?_⟩
  obtain ⟨F, G, ι, O, sd, M, s, q⟩ := q
  exact seq_s s q fun d M1 v H1 G1 ι1 O1 sg1 pr1 s1 k1 h1 => h1 v H1 G1 ι1 O1 sg1 pr1 s1.wd k1
theorem psv_retO (he : PEv ofl X W ow p .own e ev) : PSv ofl X W ow ow' true (.Return (some e) pos) (sRet ev) := by
  refine ⟨PS.imp (ps_ret he.pe) fun E σ H q => ?_⟩
  obtain ⟨F, G, ι, O, sd, M, s, q⟩ := q
  refine seq_s s q fun d M1 v H1 G1 ι1 O1 sg1 pr1 s1 k1 h1 => ?_
  obtain ⟨b, rfl, h2, h3⟩ := k1
  exact h1 _ H1 G1 ι1 O1 sg1 pr1 s1.wd ⟨b, rfl, ⟨_, h2, fun l z => (by cases z), fun l f z => (by cases z)⟩, h3⟩
/-- a name's own thing is handed back -/
theorem psv_retV {i : Nat} {x : Str} {pos' : Pos} (h : PE X (.Name x pos') (tVar i)) (hi : ow.contains i = true) : PSv ofl X W ow ow' true (.Return (some (.Name x pos')) pos) (sRet (eVar i)) := by
  refine ⟨PS.imp (ps_ret h) fun E σ H q => ?_⟩
  obtain ⟨F, G, ι, O, sd, M, s, q⟩ := q
  have hi' : i ∈ ow := by simpa using hi
  unfold sRet eVar sget at q
  cases z : sd[i]? with
  | none => rw [z] at q; exact q.elim
  | some o =>
    rw [z] at q
    cases o with
    | none => exact q.elim
    | some d =>
      obtain ⟨v, h1, h2⟩ := s.sl.2 i d z
      rw [if_pos hi'] at h2
      obtain ⟨b, rfl, h3, h4⟩ := h2
      exact ⟨_, h1, q _ H G ι O (Same.refl G) (Pre.refl ι) s.wd ⟨b, rfl, ⟨_, h3, fun l z => (by cases z), fun l f z => (by cases z)⟩, h4⟩⟩
/-- .. as data -/
theorem Wd.freeze {K : PySem.W.Frag} {mg : Str → Option Value} {F G : Hp} {ι : List Addr} {O : Addr → Option Own} {M : Mem} {H : Hp} (w : Wd K mg ofl F G ι O M H) {b : Addr} {d : D} {o : Own} (hb : O b = some o) (n1 : ∀ l, o ≠ .obj l) (n2 : ∀ l f, o ≠ .fld l f) (c : Cn K mg G ι H b d) :
    ∃ G', Wd K mg ofl F G' ι (updO O b none) M H ∧ Same G G' ∧ IsD K mg G' ι (.ref b) d := by
  have s : SR K mg ofl [] F G ι (updO O b (some .tmp)) [] [] M H := by
    refine ⟨w.go (Same.refl G) w.g w.f (fun a e => ?_) w.gf fun a u e z => ⟨?_, rfl⟩, rfl, fun i d e => by simp at e⟩
    · by_cases q : a = b
      · subst q
        exact w.og a (by rw [hb]; simp)
      · rw [updO_ne q] at e
        exact w.og a e
    · rw [updO_ne fun q => ?_]
      · exact e
      · rw [q, hb] at e
        cases e
        rcases z with ⟨l, z⟩ | ⟨l, f, z⟩
        · exact n1 l z
        · exact n2 l f z
  obtain ⟨G', s', sg, i⟩ := s.freeze updO_same c
  refine ⟨G', ?_, sg, i⟩
  have e : updO (updO O b (some .tmp)) b none = updO O b none := by
    funext a
    unfold updO
    split <;> rfl
  rw [e] at s'
  exact s'.wd
theorem psv_retF {i : Nat} {x : Str} {pos' : Pos} (h : PE X (.Name x pos') (tVar i)) (hi : ow.contains i = true) : PSv ofl X W ow ow' false (.Return (some (.Name x pos')) pos) (sRet (eVar i)) := by
  refine ⟨PS.imp (ps_ret h) fun E σ H q => ?_⟩
  obtain ⟨F, G, ι, O, sd, M, s, q⟩ := q
  have hi' : i ∈ ow := by simpa using hi
  unfold sRet eVar sget at q
  cases z : sd[i]? with
  | none => rw [z] at q; exact q.elim
  | some o =>
    rw [z] at q
    cases o with
    | none => exact q.elim
    | some d =>
      obtain ⟨v, h1, h2⟩ := s.sl.2 i d z
      rw [if_pos hi'] at h2
      obtain ⟨b, rfl, h3, h4⟩ := h2
      obtain ⟨G', w', sg, i'⟩ := s.wd.freeze h3 (fun l z => by cases z) (fun l f z => by cases z) h4
      exact ⟨_, h1, q _ H G' ι _ sg (Pre.refl ι) w' i'⟩
theorem psv_retN : PSv ofl X W ow ow' false (.Return none pos) sRetN := by
  refine ⟨PS.imp ps_retN fun E σ H q => ?_⟩
  obtain ⟨F, G, ι, O, sd, M, s, q⟩ := q
  exact q .non H G ι O (Same.refl G) (Pre.refl ι) s.wd .non
theorem psv_pass : PSv ofl X W ow ow ro (.Pass pos) sNx := by
  refine ⟨PS.imp ps_pass fun E σ H q => ?_⟩
  obtain ⟨F, G, ι, O, sd, M, s, q⟩ := q
  exact q σ H G ι O (Same.refl G) (Pre.refl ι) s
theorem psv_brk : PSv ofl X W ow ow' ro (.Break pos) sBrk := by
  refine ⟨PS.imp ps_break fun E σ H q => ?_⟩
  obtain ⟨F, G, ι, O, sd, M, s, q⟩ := q
  exact q σ H G ι O (Same.refl G) (Pre.refl ι) s
theorem psv_cnt : PSv ofl X W ow ow' ro (.Continue pos) sCnt := by
  refine ⟨PS.imp ps_continue fun E σ H q => ?_⟩
  obtain ⟨F, G, ι, O, sd, M, s, q⟩ := q
  exact q σ H G ι O (Same.refl G) (Pre.refl ι) s
theorem pbv_nil : PBv ofl X W ow ow ro [] sNx := by
  refine ⟨PSs.imp pss_nil fun E σ H q => ?_⟩
  obtain ⟨F, G, ι, O, sd, M, s, q⟩ := q
  exact q σ H G ι O (Same.refl G) (Pre.refl ι) s
theorem pbv_one (h : PSv ofl X W ow ow' ro st sv) : PBv ofl X W ow ow' ro [st] sv := ⟨pss_one h.ps⟩
/-- statements one behind the other; breaks and continues leave the names' own things as they are -/
theorem pbv_cons (h : PSv ofl X W ow ow1 ro st sv) (hr : PBv ofl X W ow1 ow' ro rest tv) (ho : ow1 = ow := by rfl) : PBv ofl X W ow ow' ro (st :: rest) (sSeq sv tv) := by
  subst ho
  refine ⟨PSs.imp (pss_cons h.ps hr.ps) fun E σ H q => ?_⟩
  obtain ⟨F, G, ι, O, sd, M, s, q⟩ := q
  refine ⟨F, G, ι, O, sd, M, s, ?_⟩
  unfold sSeq at q
  cases z : sv sd M with
  | nx sd1 M1 =>
    rw [z] at q
    exact fun σ1 H1 G1 ι1 O1 sg1 pr1 s1 => ⟨F, G1, ι1, O1, sd1, M1, s1, SPo.up q sg1 pr1⟩
  | bad => rw [z] at q; exact q
  | exc x sd1 M1 => rw [z] at q; exact q
  | brk sd1 M1 => rw [z] at q; exact q
  | cnt sd1 M1 => rw [z] at q; exact q
  | ret d M1 => rw [z] at q; exact q
/-- no break, no continue -/
def sTop (i : Nat) (a : Sv) : Sv := fun sd M => match a sd M with
  | .brk _ _ => .bad
  | .cnt _ _ => .bad
  | .exc x sd1 M1 => .exc x (sd1.set i none) M1
  | r => r
theorem SR.frz {K : PySem.W.Frag} {mg : Str → Option Value} {F G : Hp} {ι : List Addr} {O : Addr → Option Own} {σ : L2.St} {sd : Sd} {M : Mem} {H : Hp} (s : SR K mg ofl ow F G ι O σ sd M H) (nd : ow.Nodup) {i : Nat} (hi : i ∈ ow) :
    ∃ G' O', SR K mg ofl (ow.erase i) F G' ι O' σ sd M H ∧ Same G G' := by
  have mem : ∀ j, j ∈ ow.erase i ↔ j ≠ i ∧ j ∈ ow := fun j => nd.mem_erase_iff
  cases z : sget sd i with
  | none =>
    refine ⟨G, O, ⟨s.wd, s.sl.1, fun j d hj => ?_⟩, Same.refl G⟩
    obtain ⟨v, h1, h2⟩ := s.sl.2 j d hj
    refine ⟨v, h1, ?_⟩
    have ne : j ≠ i := fun q => by
      subst q
      unfold sget at z
      rw [hj] at z
      cases z
    by_cases q : j ∈ ow
    · rw [if_pos q] at h2
      rw [if_pos ((mem j).mpr ⟨ne, q⟩)]
      exact h2
    · rw [if_neg q] at h2
      rw [if_neg fun t => q ((mem j).mp t).2]
      exact h2
  | some d0 =>
    have z' : sd[i]? = some (some d0) := by
      unfold sget at z
      split at z
      · rename_i o ho
        rw [ho, z]
      · cases z
    obtain ⟨v, h1, h2⟩ := s.sl.2 i d0 z'
    rw [if_pos hi] at h2
    obtain ⟨b, rfl, h3, h4⟩ := h2
    obtain ⟨G', w', sg, i'⟩ := s.wd.freeze h3 (fun l z => by cases z) (fun l f z => by cases z) h4
    refine ⟨G', _, ⟨w', s.sl.1, fun j d hj => ?_⟩, sg⟩
    obtain ⟨v, e1, e2⟩ := s.sl.2 j d hj
    refine ⟨v, e1, ?_⟩
    by_cases q : j = i
    · subst q
      rw [if_neg fun t => ((mem j).mp t).1 rfl]
      rw [hj] at z'
      cases z'
      rw [h1] at e1
      cases e1
      exact i'
    · by_cases q2 : j ∈ ow
      · rw [if_pos q2] at e2
        rw [if_pos ((mem j).mpr ⟨q, q2⟩)]
        obtain ⟨b2, f1, f2, f3⟩ := e2
        refine ⟨b2, f1, ?_, f3.mono sg (Pre.refl ι) rfl⟩
        rw [updO_ne fun t => ?_]
        · exact f2
        · rw [t, h3] at f2
          cases f2
          exact q rfl
      · rw [if_neg q2] at e2
        rw [if_neg fun t => q2 ((mem j).mp t).2]
        exact e2.mono sg (Pre.refl ι)
/-- from here on the thing of a name's own is data -/
theorem pbv_frz {i : Nat} (h : PBv ofl X W (ow.erase i) ow' ro rest tv) (hi : ow.contains i = true) (nd : ow.Nodup := by decide) : PBv ofl X W ow ow' ro rest (sTop i tv) := by
  refine ⟨PSs.imp h.ps fun E σ H q => ?_⟩
  obtain ⟨F, G, ι, O, sd, M, s, q⟩ := q
  obtain ⟨G', O', s', sg⟩ := s.frz nd (i := i) (by simpa using hi)
  refine ⟨F, G', ι, O', sd, M, s', ?_⟩
  have q' := q.up sg (Pre.refl ι)
  unfold sTop at q'
  cases z : tv sd M with
  | bad => rw [z] at q'; exact q'
  | exc x sd1 M1 =>
    rw [z] at q'
    intro c da σ1 H1 G1 ι1 O1 sg1 pr1 s1 e1
    refine q' c da σ1 H1 G1 ι1 O1 sg1 pr1 ⟨s1.wd, by rw [List.length_set]; exact s1.sl.1, fun j d hj => ?_⟩ e1
    have ne : i ≠ j := fun t => by
      subst t
      have hl := (List.getElem?_eq_some_iff.mp hj).1
      rw [List.length_set] at hl
      rw [List.getElem?_set_self hl] at hj
      cases hj
    rw [List.getElem?_set_ne ne] at hj
    obtain ⟨v, h1, h2⟩ := s1.sl.2 j d hj
    refine ⟨v, h1, ?_⟩
    by_cases t : j ∈ ow
    · rw [if_pos (nd.mem_erase_iff.mpr ⟨fun z => ne z.symm, t⟩)] at h2
      rw [if_pos t]
      exact h2
    · rw [if_neg fun z => t (nd.mem_erase_iff.mp z).2] at h2
      rw [if_neg t]
      exact h2
  | brk sd1 M1 => rw [z] at q'; exact q'.elim
  | cnt sd1 M1 => rw [z] at q'; exact q'.elim
  | ret d M1 => rw [z] at q'; exact q'
  | nx sd1 M1 => rw [z] at q'; exact q'
theorem psv_if {c : Expr} {a b : List Stmt} {ct : Tv} (hc : PTv ofl X W ow p c ct) (ha : PBv ofl X W ow ow' ro a sv) (hb : PBv ofl X W ow ow' ro b tv) : PSv ofl X W ow ow' ro (.If c a b pos) (sIf ct sv tv) := by
  refine ⟨PS.imp (ps_if hc.pt ha.ps hb.ps) fun E σ H q => ?_⟩
  obtain ⟨F, G, ι, O, sd, M, s, q⟩ := q
  refine seq_st s q fun k M1 H1 G1 ι1 O1 sg1 pr1 s1 h1 => ?_
  cases k with
  | true => rw [if_pos rfl] at h1 ⊢; exact ⟨F, G1, ι1, O1, sd, M1, s1, h1.up sg1 pr1⟩
  | false => rw [if_neg Bool.false_ne_true] at h1 ⊢; exact ⟨F, G1, ι1, O1, sd, M1, s1, h1.up sg1 pr1⟩
theorem psv_while {c : Expr} {body : List Stmt} {ct : Tv} (hp : PassesOwn (model X.prog X.w) X.A X.env X.xe) (hc : PTv ofl X W ow p c ct) (hb : PBv ofl X W ow ow ro body sv) : PSv ofl X W ow ow ro (.While c body [] pos) (sWhile ct sv) := by
  refine ⟨PS.imp (ps_while hp hc.pt hb.ps) fun E σ H q => ?_⟩
  obtain ⟨F, G, ι, O, sd, M, s, q⟩ := q
  have nb : sWhile ct sv sd M ≠ .bad := fun z => by rw [z] at q; exact q
  obtain ⟨n, hn⟩ := sWhile_ex nb
  rw [← hn] at q
  refine ⟨fun m σ H => ∃ G ι O sd M, SR X.K X.mg ofl ow F G ι O σ sd M H ∧ SPo X.K X.mg ofl W ow ow ro F G ι E (whN ct sv m sd M), ⟨n, G, ι, O, sd, M, s, q⟩, fun m σ H z => ?_⟩
  obtain ⟨G, ι, O, sd, M, s, q⟩ := z
  cases m with
  | zero => exact q.elim
  | succ m =>
    rw [whN] at q
    have q' : SPo X.K X.mg ofl W ow ow ro F G ι E ((ct sd M).toF sd fun k M1 => if k = true then (match sv sd M1 with
        | .nx sd2 M2 => whN ct sv m sd2 M2
        | .cnt sd2 M2 => whN ct sv m sd2 M2
        | .brk sd2 M2 => .nx sd2 M2
        | .ret d M2 => .ret d M2
        | .exc x sd2 M2 => .exc x sd2 M2
        | .bad => .bad) else .nx sd M1) := by
      cases z : ct sd M with
      | bad => rw [z] at q; exact q
      | exc x M1 => rw [z] at q; exact q
      | ok k M1 =>
        rw [z] at q
        cases k with
        | true => exact q
        | false => exact q
    refine seq_st s q' fun k M1 H1 G1 ι1 O1 sg1 pr1 s1 h1 => ?_
    cases k with
    | false =>
      rw [if_neg Bool.false_ne_true] at h1 ⊢
      exact h1 σ H1 G1 ι1 O1 sg1 pr1 s1
    | true =>
      rw [if_pos rfl] at h1 ⊢
      refine ⟨fun σ H => ∃ G ι O sd M, SR X.K X.mg ofl ow F G ι O σ sd M H ∧ SPo X.K X.mg ofl W ow ow ro F G ι E (whN ct sv m sd M), fun σ' H' z => ⟨m, Nat.lt_succ_self m, z⟩, F, G1, ι1, O1, sd, M1, s1, ?_⟩
      have h1' := h1.up sg1 pr1
      cases z : sv sd M1 with
      | nx sd2 M2 => rw [z] at h1'; exact fun σ2 H2 G2 ι2 O2 sg2 pr2 s2 => ⟨G2, ι2, O2, sd2, M2, s2, SPo.up h1' sg2 pr2⟩
      | cnt sd2 M2 => rw [z] at h1'; exact fun σ2 H2 G2 ι2 O2 sg2 pr2 s2 => ⟨G2, ι2, O2, sd2, M2, s2, SPo.up h1' sg2 pr2⟩
      | brk sd2 M2 => rw [z] at h1'; exact h1'
      | ret d M2 => rw [z] at h1'; exact h1'
      | exc x sd2 M2 => rw [z] at h1'; exact h1'
      | bad => rw [z] at h1'; exact h1'

/-! ### targets, loops -/
end
end La

set_option Elab.async false
set_option linter.all false
set_option maxRecDepth 100000
/-! LaEn: enumerate(t) of a tuple t, one operand. -/
namespace LaEn
open PySem Sem PySem.Spec
open Sem (wp)

set_option maxHeartbeats 1000000 in
theorem meets_enB1 {v : Value} {o : Obj} {S : Heap → Prop} (B : Begins v o S) :
    Meets (Builtin.«enumerate.__new__» ⟨[.type "enumerate", v], []⟩)
      (fun _ R s => S s.heap ∧ R (.ok (.ret (.ref (s.heap.push o).objs.size)))
        { s with heap := (s.heap.push o).push { cls := .type "enumerate", data := .fields #[.none, .bool false, .ref s.heap.objs.size, rawInt 0, .none, .none] } }) :=
  Meets.of_wp fun prog w A R s both => by
    obtain ⟨hp, g, d, tk, os⟩ := s
    have stands := both.1
    have fin := both.2
    have subE := sub_enumerate
    have it1 : ∀ {A' : Around} {E : Value → Shared → Prop} {Q : Value → Shared → Prop}, Q (.ref hp.objs.size) ⟨hp.push o, g, d, tk, os⟩ →
        wpAny (model prog w) A' (pyIter v) Q E ⟨hp, g, d, tk, os⟩ := fun z => B.iter prog w _ _ ⟨hp, g, d, tk, os⟩ _ stands z
    wp_walk using it1
    refine wpAny_stack_any fun _ => wpAny_pure ?_
    split
    · rename_i c _ _ _ _ _
      cases (c == Value.type "enumerate") <;> (wp_walk using it1; exact ⟨_, rfl, fin⟩)
    · wp_walk using it1; exact ⟨_, rfl, fin⟩
section
variable {prog : Program} {w : World} {A : Around} {E : Value → Shared → Prop} {s : Shared}
/-- enumerate(v): its two new cells -/
theorem en_begins1 {v : Value} {o : Obj} {S : Heap → Prop} {Q : Value → Shared → Prop} (B : Begins v o S) (stands : S s.heap)
    (h : ∀ h', IsEnum h' (s.heap.objs.size + 1) s.heap.objs.size 0 .none → h'.get? s.heap.objs.size = some o → (∀ b u, s.heap.get? b = some u → h'.get? b = some u) →
      Q (.ref (s.heap.objs.size + 1)) { s with heap := h' }) : wpAny (model prog w) A (call (.type "enumerate") [v]) Q E s := by
  refine callType_new F.called_enumerate (by decide) (F.typeCall_enumerate_1 v) (F.newCall_enumerate_1 v) (fun obj => F.args_object_init_2 obj v) F.entry_enumerate_new (meets_enB1 B) ⟨stands, ?_⟩
  have sz : (s.heap.push o).objs.size = s.heap.objs.size + 1 := Heap.size_push ..
  show _ ∧ _
  rw [sz]
  have made : IsEnum ((s.heap.push o).push { cls := .type "enumerate", data := .fields #[.none, .bool false, .ref s.heap.objs.size, rawInt 0, .none, .none] }) (s.heap.objs.size + 1) s.heap.objs.size 0 .none := by
    have z := Heap.get?_push_size (s.heap.push o) (o := { cls := .type "enumerate", data := .fields #[.none, .bool false, .ref s.heap.objs.size, rawInt 0, .none, .none] }) rfl
    rw [sz] at z
    exact z
  exact ⟨⟨_, made, rfl⟩, h _ made (Heap.get?_push_of_some _ (Heap.get?_push_size _ B.free)) fun b u z => Heap.get?_push_of_some _ (Heap.get?_push_of_some _ z)⟩
end
end LaEn

namespace La
open PySem PySem.Spec L2
/-- the tuple at a: its places and items, in new pairs -/
def Itet (K : PySem.W.Frag) (a : Addr) : It where
  go := fun i H => ∃ (xs : List V) (x : V), SqT K H a xs ∧ xs[i]? = some x
  yld := fun i H v H' => ∃ T x, v = .ref T ∧ H T = none ∧ H' = upd H T (.tup [.int (i : Nat), x]) ∧ ∀ xs, SqT K H a xs → xs[i]? = some x
  stop := fun i H => ∃ xs : List V, SqT K H a xs ∧ xs.length = i
theorem turn_enT {P : Program} {w : World} {K : PySem.W.Frag} {elts : List Expr} {kk : Nat} {tpos : Pos} (a e it : Addr) :
    Turn P w K (.Tuple elts kk tpos) (Itet K a) [e, it] e (fun i h => (∃ old, IsEnum h e it ((i : Nat) : Int) old) ∧ h.IsTupleIter it a i ∧ e ≠ it) where
  mem := List.mem_cons_self
  obj := fun i h st b hb => by
    obtain ⟨⟨old, he⟩, ⟨o, ho, hc, hd⟩, _⟩ := st
    rcases List.mem_cons.mp hb with z | z
    · exact ⟨_, z ▸ he, fun v q => by cases q⟩
    · obtain rfl := List.mem_singleton.mp z
      exact ⟨o, ho, fun v q => by rw [hd] at q; cases q⟩
  keep := fun i h h' st k => ⟨st.1.elim fun old he => ⟨old, k e List.mem_cons_self _ he⟩, st.2.1.at fun o q => k it (List.mem_cons_of_mem _ List.mem_cons_self) o q, st.2.2⟩
  item := fun X hP hw hK hc i pins s σ H E I hf st hg => by
    subst hP hw hK
    obtain ⟨⟨old, he⟩, hit, hne⟩ := st
    obtain ⟨xs, x, hq, hx⟩ := hg
    obtain ⟨its, rv, p, hz⟩ := I.tuple hq
    obtain ⟨u, hu, ru⟩ := rv.get hx
    have elt : e < s.heap.objs.size := Heap.lt_size he
    have ilt : it < s.heap.objs.size := hit.elim fun _ q => Heap.lt_size q.1
    have hu' : its.toArray[i]? = some u := by simpa using hu
    have isz : i < its.toArray.size := (Array.getElem?_eq_some_iff.mp hu').1
    have ane : a ≠ it := fun z => by
      obtain ⟨o1, q1, c1, _⟩ := hit
      obtain ⟨o2, q2, c2, _⟩ := p
      rw [← z, q2] at q1
      cases q1
      rw [c2] at c1
      exact absurd c1 (by decide)
    have ane2 : a ≠ e := fun z => by
      obtain ⟨o2, q2, c2, _⟩ := p
      rw [z] at q2
      have q3 := he
      unfold IsEnum at q3
      rw [q2] at q3
      cases q3
      have c3 : Value.type "enumerate" = Value.type "tuple" := c2
      exact absurd (Value.type.inj c3) (by decide)
    refine wpAny_pyNext_enum_itemD (Draws.tuple (A := X.A.in1) (I.ok.hd hc) it a ane its.toArray) he ⟨hit, p⟩ isz hne (by simp [hne, Ne.symm ane2]) fun y h' tk hy ho hst hT hsz hk => ?_
    have ey : y = u := by rw [hy] at hu'; exact Option.some.inj hu'
    subst ey
    refine ⟨_, rfl, wpAny_letOwnedTupleGo_enum (s := { s with heap := h', toks := tk + 1 }) ho fun h2 he2 sb => ?_⟩
    have atT : h2.get? s.heap.objs.size = some { cls := .type "tuple", data := .seq #[.int i tk, y] } := (sb.2 _ (Nat.ne_of_gt elt)).trans hT
    have new : ObjOk X.prog X.w (upd H s.heap.objs.size (.tup [.int (i : Nat), x])) h2 s.heap.objs.size (.tup [.int (i : Nat), x]) :=
      ⟨line1000 (by decide : 2 ≤ 1000), [.int i tk, y], .cons ⟨_, rfl⟩ (.cons ru .nil), ⟨_, atT, rfl, _, rfl⟩⟩
    have I1 : Inv X pins σ (upd H s.heap.objs.size (.tup [.int (i : Nat), x])) { s with heap := h2, toks := tk + 1 } :=
      I.turnedNew (ch := [e, it]) (fun b ob hb q => by
        have n1 : b ≠ e := fun z => hb (by simp [z])
        have n2 : b ≠ it := fun z => hb (by simp [z])
        exact (sb.2 b n1).trans (hk b ob n1 n2 q)) hf (Nat.le_refl _) new
    refine ⟨.ref s.heap.objs.size, _, I1, rfl, ⟨_, x, rfl, I.hok.fresh (Nat.le_refl _), rfl, fun ys hy => by rw [I.tuple_inj hy hq]; exact hx⟩, ⟨⟨y, ?_⟩, hst.1.at fun o q => (sb.2 it (Ne.symm hne)).trans q, hne⟩, fun b hb => ?_⟩
    · have cast1 : ((i + 1 : Nat) : Int) = (i : Int) + 1 := by omega
      rw [cast1]
      exact he2
    · have blt : b < s.heap.objs.size := by
        rcases List.mem_cons.mp hb with z | z
        · exact z ▸ elt
        · exact List.mem_singleton.mp z ▸ ilt
      rw [upd_ne (Nat.ne_of_lt blt)]
      exact (hf b hb).1
  done := fun X hP hw hK hc i pins s σ H E I hf st hg => by
    subst hP hw hK
    obtain ⟨⟨old, he⟩, hit, hne⟩ := st
    obtain ⟨xs, hq, hx⟩ := hg
    obtain ⟨its, rv, p, hz⟩ := I.tuple hq
    obtain ⟨f0, f1, f2, f3, f4, f5⟩ := hf it (List.mem_cons_of_mem _ List.mem_cons_self)
    have hl := rv.length
    have ane : a ≠ it := fun z => by
      obtain ⟨o1, q1, c1, _⟩ := hit
      obtain ⟨o2, q2, c2, _⟩ := p
      rw [← z, q2] at q1
      cases q1
      rw [c2] at c1
      exact absurd c1 (by decide)
    have sz : its.toArray.size = i := by rw [List.size_toArray]; omega
    subst sz
    exact wpAny_pyNext_enum_endD (Draws.tuple (A := X.A.in1) (I.ok.hd hc) it a ane its.toArray) he ⟨hit, p⟩ fun h' eb => ⟨rfl, I.turned (t' := s.toks) (fun b o hb q => eb b o hb q) f0 f1 f3 f4 f5⟩
  self := fun A i s Q E st h => st.1.elim fun _ he => wpAny_pyIter_enum he h
def iEnT (K : PySem.W.Frag) (ta : TA) : TI := fun σ H R => ta σ H fun vs H1 => ∃ a xs, vs = [.ref a] ∧ SqT K H1 a xs ∧ R (Itet K a) H1
theorem pi_enT {X : Cx} {e : Expr} {ta : TA} {p pos tpos : Pos} {elts : List Expr} {kk : Nat} (hg : Gl X "enumerate") (hm : X.mg "enumerate" = none) (ha : PA X [e] ta)
    (hs : starEach [e] X.env = [(false, eval e X.env)] := by rfl) : PI X (.Tuple elts kk tpos) (.Call (.Name "enumerate" p) [e] [] pos) (iEnT X.K ta) := by
  refine ⟨fun pins s σ H R I h => ?_⟩
  refine PyProof.Rows.Call_ (ld_blt I hg hm PyProof.Rows.boot_enumerate (PyProof.Rows.callWith_type1 (thn (ha.run pos pins s σ H _ I h) fun us s1 q => ?_) hs rfl))
  obtain ⟨vs, H1, I1, r1, a, xs, ex, hq, q⟩ := q
  subst ex
  cases r1 with
  | cons r rr =>
    cases rr
    cases r
    obtain ⟨its, rv, tp, hz⟩ := I1.tuple hq
    refine LaEn.en_begins1 (begins_tuple a its.toArray) tp fun h' he hit hk => wpAny_pyIter_enum he ?_
    have I2 : Inv X pins σ H1 { s1 with heap := h' } := I1.kept (t' := s1.toks) hk
    refine ⟨s1.heap.objs.size + 1, [s1.heap.objs.size + 1, s1.heap.objs.size], _, _, H1, rfl, I2, turn_enT a (s1.heap.objs.size + 1) s1.heap.objs.size, ⟨⟨.none, he⟩, ⟨_, hit, rfl, rfl⟩, Nat.succ_ne_self _⟩, fun b hb => ?_, q⟩
    have ge : s1.heap.objs.size ≤ b := by
      rcases List.mem_cons.mp hb with z | z
      · exact z ▸ Nat.le_succ _
      · exact Nat.le_of_eq (List.mem_singleton.mp z).symm
    exact I1.fpOk ge (I1.hok.fresh ge)
end La

set_option Elab.async false
set_option linter.all false
set_option maxRecDepth 100000
/-! La8: targets, what is walked, for, comprehensions. -/
namespace La
open PySem PySem.Spec L2

/-! ### targets; ts: the slots that they fill -/
section
variable (K : PySem.W.Frag) (mg : Str → Option Value) (ofl : Str → Str → Bool)
def OnlyAt (ts : List Nat) (σ σ' : L2.St) : Prop := σ'.length = σ.length ∧ ∀ j, j ∉ ts → σ'[j]? = σ[j]?
def tgv (ow : List Nat) (ts : List Nat) (g : Tg) : TG := fun v σ H Q => ∃ F G ι O sd M d, SR K mg ofl ow F G ι O σ sd M H ∧ IsD K mg G ι v d ∧ ∃ sd', g d sd = some sd' ∧ ∀ σ', SR K mg ofl ow F G ι O σ' sd' M H → OnlyAt ts σ σ' → Q σ' H
def tgsv (ow : List Nat) (ts : List Nat) (g : List D → Sd → Option Sd) : TGs := fun vs σ H Q => ∃ F G ι O sd M ds, SR K mg ofl ow F G ι O σ sd M H ∧ IsDs K mg G ι vs ds ∧ ∃ sd', g ds sd = some sd' ∧ ∀ σ', SR K mg ofl ow F G ι O σ' sd' M H → OnlyAt ts σ σ' → Q σ' H
end
def SOnly (ts : List Nat) (sd sd' : Sd) : Prop := sd'.length = sd.length ∧ ∀ j, j ∉ ts → sd'[j]? = sd[j]?
structure PGv (ofl : Str → Str → Bool) (X : Cx) (ow ts : List Nat) (tg : Expr) (g : Tg) : Prop where
  pg : PG X tg (tgv X.K X.mg ofl ow ts g)
  only : ∀ d sd sd', g d sd = some sd' → SOnly ts sd sd'
structure PGsv (ofl : Str → Str → Bool) (X : Cx) (ow ts : List Nat) (tgs : List Expr) (g : List D → Sd → Option Sd) : Prop where
  pgs : PGs X tgs (tgsv X.K X.mg ofl ow ts g)
  only : ∀ d sd sd', g d sd = some sd' → SOnly ts sd sd'
theorem PG.imp {X : Cx} {e : Expr} {t u : TG} (h : PG X e t) (i : ∀ v σ H Q, u v σ H Q → t v σ H Q) : PG X e u := ⟨fun pins s σ H v w Q I r q => h.run pins s σ H v w Q I r (i v σ H Q q)⟩
theorem PGs.imp {X : Cx} {e : List Expr} {t u : TGs} (h : PGs X e t) (i : ∀ v σ H Q, u v σ H Q → t v σ H Q) : PGs X e u := ⟨fun pins s σ H v w Q I r q => h.run pins s σ H v w Q I r (i v σ H Q q)⟩
section
variable {ofl : Str → Str → Bool} {X : Cx} {ow ts us : List Nat} {e : Expr} {es : List Expr} {g : Tg} {gs : List D → Sd → Option Sd}
theorem OnlyAt.trans {σ σ1 σ2 : L2.St} (a : OnlyAt ts σ σ1) (b : OnlyAt us σ1 σ2) : OnlyAt (ts ++ us) σ σ2 := ⟨b.1.trans a.1, fun j hj => by
  rw [List.mem_append] at hj
  rw [b.2 j fun z => hj (.inr z), a.2 j fun z => hj (.inl z)]⟩
theorem pgv_name {i : Nat} {x : Str} {pos : Pos} (h : PG X (.Name x pos) (gName i)) (hi : ow.contains i = false) : PGv ofl X ow [i] (.Name x pos) (gN i) := by
  refine ⟨PG.imp h fun v σ H Q q => ?_, fun d sd sd' e => by
    cases e
    exact ⟨List.length_set, fun j hj => List.getElem?_set_ne fun z => hj (by simp [z])⟩⟩
  obtain ⟨F, G, ι, O, sd, M, d, s, hd, sd', e, q⟩ := q
  cases e
  refine q _ (s.set (by simpa using hi) hd) ⟨List.length_set, fun j hj => List.getElem?_set_ne ?_⟩
  intro z
  exact hj (by simp [z])
theorem pgsv_nil : PGsv ofl X ow [] [] gNone := by
  refine ⟨PGs.imp pgs_nil fun v σ H Q q => ?_, fun d sd sd' e => by
    cases d with
    | nil => cases e; exact ⟨rfl, fun _ _ => rfl⟩
    | cons a b => cases e⟩
  obtain ⟨F, G, ι, O, sd, M, ds, s, hd, sd', e, q⟩ := q
  cases hd with
  | nil =>
    cases e
    exact ⟨rfl, q _ s ⟨rfl, fun _ _ => rfl⟩⟩
  | cons a b => cases e
theorem pgsv_cons (h : PGv ofl X ow ts e g) (hr : PGsv ofl X ow us es gs) (hs : (assignEach (e :: es) X.env).map (·.2) = assign e X.env :: (assignEach es X.env).map (·.2) := by rfl) : PGsv ofl X ow (ts ++ us) (e :: es) (gMore g gs) := by
  refine ⟨PGs.imp (pgs_cons h.pg hr.pgs hs) fun v σ H Q q => ?_, fun d sd sd' e => by
    cases d with
    | nil => cases e
    | cons a b =>
      obtain ⟨sd1, e1, e2⟩ := Option.bind_eq_some_iff.mp e
      have o1 := h.only _ _ _ e1
      have o2 := hr.only _ _ _ e2
      exact ⟨o2.1.trans o1.1, fun j hj => by
        rw [List.mem_append] at hj
        rw [o2.2 j fun z => hj (.inr z), o1.2 j fun z => hj (.inl z)]⟩⟩
  obtain ⟨F, G, ι, O, sd, M, ds, s, hd, sd', e, q⟩ := q
  cases hd with
  | nil => cases e
  | cons a b =>
    obtain ⟨sd1, e1, e2⟩ := Option.bind_eq_some_iff.mp e
    exact ⟨_, _, rfl, F, G, ι, O, sd, M, _, s, a, sd1, e1, fun σ1 s1 o1 => ⟨F, G, ι, O, sd1, M, _, s1, b, sd', e2, fun σ2 s2 o2 => q σ2 s2 (o1.trans o2)⟩⟩
theorem pgv_tup {n k : Nat} {pos : Pos} (hc : X.calm = true) (h : PGsv ofl X ow ts es gs) (hn : (assignEach es X.env).length = n := by rfl) (hst : (assignEach es X.env).findIdx? (·.1) = none := by rfl) : PGv ofl X ow ts (.Tuple es k pos) (gT n gs) := by
  refine ⟨PG.imp (pg_tup (n := n) hc h.pgs hn hst) fun v σ H Q q => ?_, fun d sd sd' e => by
    cases d with
    | tup ds =>
      obtain ⟨c, e1⟩ := okIx.ite_some' (c := ds.length = n) (a := gs ds sd) e
      exact h.only _ _ _ e1
    | _ => cases e⟩
  obtain ⟨F, G, ι, O, sd, M, d, s, hd, sd', e, q⟩ := q
  cases d with
  | tup ds =>
    obtain ⟨c, e1⟩ := okIx.ite_some' (c := ds.length = n) (a := gs ds sd) e
    obtain ⟨a, vs, rfl, h1, h2⟩ := At.tup s.wd.g (.inl hd)
    exact ⟨a, vs, rfl, h1, by rw [h2.length]; exact c, F, G, ι, O, sd, M, ds, s, h2, sd', e1, q⟩
  | _ => cases e
end

/-! ### what is walked -/
structure Wk (K : PySem.W.Frag) (mg : Str → Option Value) (J : It) (G : Hp) (ι : List Addr) (ds : List D) : Prop where
  go : ∀ i H G1, Same G G1 → Same G1 H → i < ds.length → J.go i H
  yl : ∀ i H G1 ι1 x H', Same G G1 → Same G1 H → Pre ι ι1 → i < ds.length → J.yld i H x H' → ∃ d, ds[i]? = some d ∧ ((H' = H ∧ IsD K mg G1 ι1 x d) ∨ ∃ T o, H T = none ∧ H' = upd H T o ∧ IsD K mg (upd G1 T o) ι1 x d)
  st : ∀ H G1, Same G G1 → Same G1 H → J.stop ds.length H
section
variable (K : PySem.W.Frag) (mg : Str → Option Value) (ofl : Str → Str → Bool) (W : WX)
def IPo (ow : List Nat) (p : Bool) (F G : Hp) (ι : List Addr) (σ : L2.St) (sd : Sd) (H : Hp) (Q : It → Hp → Prop) : R (List D) → Prop
  | .bad => False
  | .ok ds M' => ∀ J H' G' ι' O', Same G G' → Pre ι ι' → SR K mg ofl ow F G' ι' O' σ sd M' H' → Wk K mg J G' ι' ds → (p = true → Same H H') → Q J H'
  | .exc x M' => ∀ c da H' G' ι' O', Same G G' → Pre ι ι' → SR K mg ofl ow F G' ι' O' σ sd M' H' → ExR K mg G' ι' H' x c da → W c da σ H'
def tiv (ow : List Nat) (p : Bool) (ev : Iv) : TI := fun σ H Q => ∃ F G ι O sd M, SR K mg ofl ow F G ι O σ sd M H ∧ IPo K mg ofl W ow p F G ι σ sd H Q (ev sd M)
end
structure PIv (ofl : Str → Str → Bool) (X : Cx) (W : WX) (ow : List Nat) (p : Bool) (tg e : Expr) (ev : Iv) : Prop where
  pi : PI X tg e (tiv X.K X.mg ofl W ow p ev)
theorem PI.imp {X : Cx} {tg e : Expr} {t u : TI} (h : PI X tg e t) (i : ∀ σ H Q, u σ H Q → t σ H Q) : PI X tg e u := ⟨fun pins s σ H Q I q => h.run pins s σ H Q I (i σ H Q q)⟩
theorem PI.or {X : Cx} {tg e : Expr} {t u : TI} (h : PI X tg e t) (k : PI X tg e u) : PI X tg e (fun σ H R => t σ H R ∨ u σ H R) := ⟨fun pins s σ H Q I q => q.elim (h.run pins s σ H Q I) (k.run pins s σ H Q I)⟩
def signs (x : Str) : List D := x.cps.toList.map fun c => .str ⟨#[c]⟩
/-- a list, a tuple, a text, as it is walked -/
def dSeq : D → Option (List D)
  | .lst ds => some ds
  | .tup ds => some ds
  | .scr ns => some (ns.map .int)
  | .str x => some (signs x)
  | _ => none
def iSeq (a : Ev) : Iv := fun sd M => (a sd M).bind fun d M1 => R.ofO (dSeq d) M1
section
variable {K : PySem.W.Frag} {mg : Str → Option Value} {G : Hp} {ι : List Addr}
theorem wk_list {a : Addr} {vs : List V} {ds : List D} (h : SqL K G a vs) (hv : IsDs K mg G ι vs ds) : Wk K mg (Itl K a) G ι ds where
  go := fun i H G1 s1 s2 hi => by
    have e : ds[i]? = some ds[i] := List.getElem?_eq_getElem hi
    obtain ⟨v, e1, _⟩ := hv.get e
    exact ⟨vs, v, Same.sql (s1.trans s2) h, e1⟩
  yl := fun i H G1 ι1 x H' s1 s2 pr hi y => by
    obtain ⟨rfl, y⟩ := y
    obtain ⟨d, e1, e2⟩ := hv.getV (y vs (Same.sql (s1.trans s2) h))
    exact ⟨d, e1, .inl ⟨rfl, e2.mono s1 pr⟩⟩
  st := fun H G1 s1 s2 => ⟨vs, Same.sql (s1.trans s2) h, by rw [hv.length]; exact Nat.le_refl _⟩
theorem wk_tup {a : Addr} {vs : List V} {ds : List D} (h : SqT K G a vs) (hv : IsDs K mg G ι vs ds) : Wk K mg (Itt K a) G ι ds where
  go := fun i H G1 s1 s2 hi => by
    have e : ds[i]? = some ds[i] := List.getElem?_eq_getElem hi
    obtain ⟨v, e1, _⟩ := hv.get e
    exact ⟨vs, v, Same.sqt (s1.trans s2) h, e1⟩
  yl := fun i H G1 ι1 x H' s1 s2 pr hi y => by
    obtain ⟨rfl, y⟩ := y
    obtain ⟨d, e1, e2⟩ := hv.getV (y vs (Same.sqt (s1.trans s2) h))
    exact ⟨d, e1, .inl ⟨rfl, e2.mono s1 pr⟩⟩
  st := fun H G1 s1 s2 => ⟨vs, Same.sqt (s1.trans s2) h, by rw [hv.length]; exact Nat.le_refl _⟩
theorem wk_str {x : Str} : Wk K mg (Its x) G ι (signs x) where
  go := fun i H G1 s1 s2 hi => by
    show i < x.cps.size
    simpa [signs] using hi
  yl := fun i H G1 ι1 v H' s1 s2 pr hi y => by
    obtain ⟨rfl, c, e, rfl⟩ := y
    refine ⟨.str ⟨#[c]⟩, ?_, .inl ⟨rfl, .str _⟩⟩
    unfold signs
    rw [List.getElem?_map]
    have e' : x.cps.toList[i]? = some c := by simpa using e
    rw [e']
    rfl
  st := fun H G1 s1 s2 => by
    show x.cps.size ≤ _
    simp [signs]
def rngD (lo : Int) (n : Nat) : List D := (List.range n).map fun i => .int (lo + (i : Nat))
theorem wk_rng {lo : Int} {n : Nat} : Wk K mg (Itr lo n) G ι (rngD lo n) where
  go := fun i H G1 s1 s2 hi => by
    show i < n
    simpa [rngD] using hi
  yl := fun i H G1 ι1 v H' s1 s2 pr hi y => by
    obtain ⟨rfl, rfl⟩ := y
    have hi' : i < n := by simpa [rngD] using hi
    exact ⟨.int (lo + i), by simp [rngD, hi'], .inl ⟨rfl, .int _⟩⟩
  st := fun H G1 s1 s2 => by
    show n ≤ _
    simp [rngD]
def rngC (lo c : Int) (n : Nat) : List D := (List.range n).map fun i => .int (lo + (i : Nat) * c)
theorem wk_rngC {lo c : Int} {n : Nat} : Wk K mg (Itc lo c n) G ι (rngC lo c n) where
  go := fun i H G1 s1 s2 hi => by
    show i < n
    simpa [rngC] using hi
  yl := fun i H G1 ι1 v H' s1 s2 pr hi y => by
    obtain ⟨rfl, rfl⟩ := y
    have hi' : i < n := by simpa [rngC] using hi
    exact ⟨.int (lo + (i : Nat) * c), by simp [rngC, hi'], .inl ⟨rfl, .int _⟩⟩
  st := fun H G1 s1 s2 => by
    show n ≤ _
    simp [rngC]
/-- places and items -/
def enD (ds : List D) : List D := ds.mapIdx fun i d => .tup [.int (i : Nat), d]
theorem enD_length (ds : List D) : (enD ds).length = ds.length := by simp [enD]
theorem wk_enL {a : Addr} {vs : List V} {ds : List D} (h : SqL K G a vs) (hv : IsDs K mg G ι vs ds) : Wk K mg (Ite K a) G ι (enD ds) where
  go := fun i H G1 s1 s2 hi => by
    rw [enD_length] at hi
    obtain ⟨v, e1, _⟩ := hv.get (List.getElem?_eq_getElem hi)
    exact ⟨vs, v, Same.sql (s1.trans s2) h, e1⟩
  yl := fun i H G1 ι1 x H' s1 s2 pr hi y => by
    obtain ⟨T, v, rfl, hT, rfl, y⟩ := y
    obtain ⟨d, e1, e2⟩ := hv.getV (y vs (Same.sql (s1.trans s2) h))
    have gT : G1 T = none := s2.free hT
    refine ⟨.tup [.int (i : Nat), d], by simp [enD, e1], .inr ⟨T, _, hT, rfl, .tup (.of upd_same) (.cons (.int _) (.cons ?_ .nil))⟩⟩
    exact e2.mono (s1.trans (Same.upd gT)) pr
  st := fun H G1 s1 s2 => ⟨vs, Same.sql (s1.trans s2) h, by rw [enD_length, hv.length]; exact Nat.le_refl _⟩
theorem wk_enT {a : Addr} {vs : List V} {ds : List D} (h : SqT K G a vs) (hv : IsDs K mg G ι vs ds) : Wk K mg (Itet K a) G ι (enD ds) where
  go := fun i H G1 s1 s2 hi => by
    rw [enD_length] at hi
    obtain ⟨v, e1, _⟩ := hv.get (List.getElem?_eq_getElem hi)
    exact ⟨vs, v, Same.sqt (s1.trans s2) h, e1⟩
  yl := fun i H G1 ι1 x H' s1 s2 pr hi y => by
    obtain ⟨T, v, rfl, hT, rfl, y⟩ := y
    obtain ⟨d, e1, e2⟩ := hv.getV (y vs (Same.sqt (s1.trans s2) h))
    have gT : G1 T = none := s2.free hT
    refine ⟨.tup [.int (i : Nat), d], by simp [enD, e1], .inr ⟨T, _, hT, rfl, .tup (.of upd_same) (.cons (.int _) (.cons ?_ .nil))⟩⟩
    exact e2.mono (s1.trans (Same.upd gT)) pr
  st := fun H G1 s1 s2 => ⟨vs, Same.sqt (s1.trans s2) h, by rw [enD_length, hv.length]⟩
end

section
variable {ofl : Str → Str → Bool} {X : Cx} {W : WX} {ow ow1 ow' ts : List Nat} {ro : Bool} {p : Bool} {k : Kd} {tg e : Expr} {ev : Ev} {av : Av} {iv : Iv} {st : Stmt} {sv : Sv} {g : Tg} {pos : Pos}
theorem ipo_bad {K : PySem.W.Frag} {mg : Str → Option Value} {F : Hp} {σ : L2.St} {sd : Sd} {Q : It → Hp → Prop} : ∀ H G ι, ¬ IPo K mg ofl W ow p F G ι σ sd H Q .bad := fun _ _ _ h => h
theorem piv_seq (he : PEv ofl X W ow p .dat e ev) : PIv ofl X W ow p tg e (iSeq ev) := by
  refine ⟨PI.imp (La.PI.or (pi_list he.pe) (La.PI.or (pi_tup he.pe) (pi_str he.pe))) fun σ H R q => ?_⟩
  obtain ⟨F, G, ι, O, sd, M, s, h⟩ := q
  unfold iSeq at h
  cases z : ev sd M with
  | bad => rw [z] at h; exact h.elim
  | exc x M1 =>
    rw [z] at h
    exact .inl ⟨F, G, ι, O, sd, M, s, by rw [z]; exact h⟩
  | ok d M1 =>
    rw [z] at h
    have mk : ∀ {Q : VK}, (∀ v H' G' ι' O', Same G G' → Pre ι ι' → SR X.K X.mg ofl ow F G' ι' O' σ sd M1 H' → IsD X.K X.mg G' ι' v d → (p = true → Same H H') → Q v H') → tev X.K X.mg ofl W ow p .dat ev σ H Q :=
      fun n => ⟨F, G, ι, O, sd, M, s, by rw [z]; exact n⟩
    cases d with
    | lst ds =>
      refine .inl (mk fun v H' G' ι' O' sg pr s' hd sm => ?_)
      cases hd with
      | lst h1 h2 => exact ⟨_, rfl, ⟨_, .of (s'.wd.g _ _ h1)⟩, h _ H' G' ι' O' sg pr s' (wk_list (.of h1) h2) sm⟩
    | tup ds =>
      refine .inr (.inl (mk fun v H' G' ι' O' sg pr s' hd sm => ?_))
      cases hd with
      | tup h1 h2 => exact ⟨_, rfl, ⟨_, Same.sqt s'.wd.g h1⟩, h _ H' G' ι' O' sg pr s' (wk_tup h1 h2) sm⟩
    | scr ns =>
      refine .inl (mk fun v H' G' ι' O' sg pr s' hd sm => ?_)
      cases hd with
      | scr h1 => exact ⟨_, rfl, ⟨_, Same.sql s'.wd.g h1⟩, h _ H' G' ι' O' sg pr s' (wk_list h1 (isDs_ints ns)) sm⟩
    | str x =>
      refine .inr (.inr (mk fun v H' G' ι' O' sg pr s' hd sm => ?_))
      cases hd
      exact ⟨_, rfl, h _ H' G' ι' O' sg pr s' wk_str sm⟩
    | _ => exact h.elim
where
  isDs_ints {K : PySem.W.Frag} {mg : Str → Option Value} {G : Hp} {ι : List Addr} : ∀ ns : List Int, IsDs K mg G ι (ns.map V.int) (ns.map D.int)
    | [] => .nil
    | n :: ns => .cons (.int n) (isDs_ints ns)
/-- one list of arguments, then what is walked -/
theorem seq_ai {F G : Hp} {ι : List Addr} {O : Addr → Option Own} {σ : L2.St} {sd : Sd} {M : Mem} {H : Hp} {R : It → Hp → Prop} {gf : List D → Mem → La.R (List D)} {Q : List V → Hp → Prop} (s : SR X.K X.mg ofl ow F G ι O σ sd M H)
    (h : IPo X.K X.mg ofl W ow p F G ι σ sd H R ((av sd M).bind gf))
    (n : ∀ ds M' vs H' G' ι' O', Same G G' → Pre ι ι' → SR X.K X.mg ofl ow F G' ι' O' σ sd M' H' → IsDs X.K X.mg G' ι' vs ds → (p = true → Same H H') → IPo X.K X.mg ofl W ow p F G ι σ sd H R (gf ds M') → Q vs H') : tav X.K X.mg ofl W ow p av σ H Q := by
  refine ⟨F, G, ι, O, sd, M, s, ?_⟩
  cases z : av sd M with
  | bad => rw [z] at h; exact h
  | exc x M' => rw [z] at h; exact h
  | ok ds M' => rw [z] at h; exact fun vs H' G' ι' O' a b s' hv q => n ds M' vs H' G' ι' O' a b s' hv q h
def r62 (i : Int) : Prop := -(2 ^ 62) ≤ i ∧ i < 2 ^ 62
instance (i : Int) : Decidable (r62 i) := by unfold r62; exact inferInstance
def iR1 (a : Av) : Iv := fun sd M => (a sd M).bind fun ds M1 => match ds with
  | [.int j] => if r62 j then .ok (rngD 0 j.toNat) M1 else .bad
  | _ => .bad
def iR2 (a : Av) : Iv := fun sd M => (a sd M).bind fun ds M1 => match ds with
  | [.int i, .int j] => if r62 i ∧ r62 j then .ok (rngD i (j - i).toNat) M1 else .bad
  | _ => .bad
/-- range(i, j, -1) -/
def iRm (a : Av) : Iv := fun sd M => (a sd M).bind fun ds M1 => match ds with
  | [.int i, .int j, .int c] => if r62 i ∧ r62 j ∧ c = -1 then .ok (rngC i (-1) (i - j).toNat) M1 else .bad
  | _ => .bad
theorem piv_range1 {a : Expr} {f : Pos} (h : ∀ ta, PA X [a] ta → PI X tg e (iRng1 ta)) (ha : PAv ofl X W ow p [a] av) : PIv ofl X W ow p tg e (iR1 av) := by
  refine ⟨PI.imp (h _ ha.pa) fun σ H R q => ?_⟩
  obtain ⟨F, G, ι, O, sd, M, s, q⟩ := q
  refine seq_ai s q fun ds M1 vs H1 G1 ι1 O1 sg1 pr1 s1 k1 q1 h1 => ?_
  cases k1 with
  | nil => exact h1.elim
  | @cons v d vs ds a b =>
    cases d with
    | int j =>
      cases a
      cases b with
      | nil =>
        obtain ⟨c, h2⟩ := ipo_ite (c := r62 j) h1
        exact ⟨j, rfl, c.1, c.2, h2 _ H1 G1 ι1 O1 sg1 pr1 s1 wk_rng q1⟩
      | cons a b => exact h1.elim
    | _ => cases b <;> exact h1.elim
where
  ipo_ite {c : Prop} [Decidable c] {F G H : Hp} {ι : List Addr} {σ : L2.St} {sd : Sd} {R : It → Hp → Prop} {r : La.R (List D)} (h : IPo X.K X.mg ofl W ow p F G ι σ sd H R (if c then r else .bad)) : c ∧ IPo X.K X.mg ofl W ow p F G ι σ sd H R r := by
    by_cases q : c
    · rw [if_pos q] at h; exact ⟨q, h⟩
    · rw [if_neg q] at h; exact h.elim
theorem piv_range2 {a b : Expr} (h : ∀ ta, PA X [a, b] ta → PI X tg e (iRng2 ta)) (ha : PAv ofl X W ow p [a, b] av) : PIv ofl X W ow p tg e (iR2 av) := by
  refine ⟨PI.imp (h _ ha.pa) fun σ H R q => ?_⟩
  obtain ⟨F, G, ι, O, sd, M, s, q⟩ := q
  refine seq_ai s q fun ds M1 vs H1 G1 ι1 O1 sg1 pr1 s1 k1 q1 h1 => ?_
  split at h1
  · cases k1 with
    | cons a b =>
      cases b with
      | cons b c =>
        cases c
        cases a
        cases b
        obtain ⟨c, h2⟩ := piv_range1.ipo_ite h1
        exact ⟨_, _, rfl, ⟨c.1.1, c.1.2, c.2.1, c.2.2⟩, h2 _ H1 G1 ι1 O1 sg1 pr1 s1 wk_rng q1⟩
  · exact h1.elim
theorem piv_rangeM {a b c : Expr} (h : ∀ ta, PA X [a, b, c] ta → PI X tg e (iRng3 ta)) (ha : PAv ofl X W ow p [a, b, c] av) : PIv ofl X W ow p tg e (iRm av) := by
  refine ⟨PI.imp (h _ ha.pa) fun σ H R q => ?_⟩
  obtain ⟨F, G, ι, O, sd, M, s, q⟩ := q
  refine seq_ai s q fun ds M1 vs H1 G1 ι1 O1 sg1 pr1 s1 k1 q1 h1 => ?_
  split at h1
  · cases k1 with
    | cons a b =>
      cases b with
      | cons b c =>
        cases c with
        | cons c d =>
          cases d
          cases a
          cases b
          cases c
          obtain ⟨⟨c1, c2, rfl⟩, h2⟩ := piv_range1.ipo_ite h1
          exact ⟨_, _, _, _, rfl, RgC.neg c1.1 c1.2 c2.1 c2.2, h2 _ H1 G1 ι1 O1 sg1 pr1 s1 wk_rngC q1⟩
  · exact h1.elim
def iEn (a : Av) : Iv := fun sd M => (a sd M).bind fun ds M1 => match ds with
  | [.lst es] => .ok (enD es) M1
  | [.tup es] => .ok (enD es) M1
  | _ => .bad
theorem piv_en {a : Expr} (h : ∀ ta, PA X [a] ta → PI X tg e (iEnum X.K ta)) (h' : ∀ ta, PA X [a] ta → PI X tg e (iEnT X.K ta)) (ha : PAv ofl X W ow p [a] av) : PIv ofl X W ow p tg e (iEn av) := by
  refine ⟨PI.imp (La.PI.or (h _ ha.pa) (h' _ ha.pa)) fun σ H R q => ?_⟩
  obtain ⟨F, G, ι, O, sd, M, s, q⟩ := q
  have q0 := q
  unfold iEn at q
  cases z : av sd M with
  | bad => rw [z] at q; exact q.elim
  | exc x M1 =>
    rw [z] at q
    exact .inl ⟨F, G, ι, O, sd, M, s, by rw [z]; exact q⟩
  | ok ds M1 =>
    rw [z] at q
    dsimp only [La.R.bind_ok] at q
    split at q
    · refine .inl ⟨F, G, ι, O, sd, M, s, ?_⟩
      rw [z]
      intro vs H1 G1 ι1 O1 sg1 pr1 s1 k1 q1
      cases k1 with
      | cons a b =>
        cases b
        cases a with
        | lst h1 h2 => exact ⟨_, _, rfl, .of (s1.wd.g _ _ h1), q _ H1 G1 ι1 O1 sg1 pr1 s1 (wk_enL (.of h1) h2) q1⟩
    · refine .inr ⟨F, G, ι, O, sd, M, s, ?_⟩
      rw [z]
      intro vs H1 G1 ι1 O1 sg1 pr1 s1 k1 q1
      cases k1 with
      | cons a b =>
        cases b
        cases a with
        | tup h1 h2 => exact ⟨_, _, rfl, Same.sqt s1.wd.g h1, q _ H1 G1 ι1 O1 sg1 pr1 s1 (wk_enT h1 h2) q1⟩
    · exact q.elim

/-! ### for -/
/-- an item is drawn -/
theorem SR.draw {F G : Hp} {ι : List Addr} {O : Addr → Option Own} {σ : L2.St} {sd : Sd} {M : Mem} {H H' : Hp} {x : V} {d : D} (s : SR X.K X.mg ofl ow F G ι O σ sd M H) (h : (H' = H ∧ IsD X.K X.mg G ι x d) ∨ ∃ T o, H T = none ∧ H' = upd H T o ∧ IsD X.K X.mg (upd G T o) ι x d) :
    ∃ G', Same G G' ∧ Same H H' ∧ SR X.K X.mg ofl ow F G' ι O σ sd M H' ∧ IsD X.K X.mg G' ι x d := by
  rcases h with ⟨rfl, h⟩ | ⟨T, o, hT, rfl, h⟩
  · exact ⟨G, Same.refl G, Same.refl _, s, h⟩
  · obtain ⟨s', sg, sm, _⟩ := s.laidG (o := o) hT
    exact ⟨_, sg, sm, s', h⟩
theorem psv_for {iter : Expr} {body : List Stmt} (hp : PassesOwn (model X.prog X.w) X.A X.env X.xe) (hc : X.calm = true) (hi : PIv ofl X W ow p tg iter iv) (hg : PGv ofl X ow ts tg g) (hb : PBv ofl X W ow ow ro body sv)
    (hs : ∀ x, foldedSetIterable iter X.env x = pure x := by intro _; rfl) : PSv ofl X W ow ow ro (.For tg iter body [] pos) (sFor iv g sv) := by
  refine ⟨PS.imp (ps_for hp hc hi.pi hg.pg hb.ps hs) fun E σ H q => ?_⟩
  obtain ⟨F, G, ι, O, sd, M, s, q⟩ := q
  refine ⟨F, G, ι, O, sd, M, s, ?_⟩
  unfold sFor at q
  cases z : iv sd M with
  | bad => rw [z] at q; exact q
  | exc x M1 => rw [z] at q; exact fun c da H' G' ι' O' a b s' e => q c da σ H' G' ι' O' a b s' e
  | ok ds M1 =>
    rw [z] at q
    dsimp only [La.R.toF_ok] at q
    intro J H1 G1 ι1 O1 sg1 pr1 s1 wk q1
    have q := q.up sg1 pr1
    refine ⟨fun i m σ H => m = ds.length - i ∧ i ≤ ds.length ∧ ∃ G2 ι2 O2 sd2 M2, Same G1 G2 ∧ Pre ι1 ι2 ∧ SR X.K X.mg ofl ow F G2 ι2 O2 σ sd2 M2 H ∧ SPo X.K X.mg ofl W ow ow ro F G2 ι2 E (forD g sv (ds.drop i) sd2 M2),
      ⟨_, rfl, Nat.zero_le _, G1, ι1, O1, sd, M1, Same.refl _, Pre.refl _, s1, q⟩, fun i m σ H w => ?_⟩
    obtain ⟨rfl, hil, G2, ι2, O2, sd2, M2, sg2, pr2, s2, q2⟩ := w
    rcases Nat.lt_or_eq_of_le hil with hlt | heq
    · refine .inr ⟨wk.go i H G2 sg2 s2.wd.g hlt, fun σ H => ∃ G3 ι3 O3 sd3 M3, Same G1 G3 ∧ Pre ι1 ι3 ∧ SR X.K X.mg ofl ow F G3 ι3 O3 σ sd3 M3 H ∧ SPo X.K X.mg ofl W ow ow ro F G3 ι3 E (forD g sv (ds.drop (i + 1)) sd3 M3), fun σ' H' w => ?_, fun x H' y => ?_⟩
      · obtain ⟨G3, ι3, O3, sd3, M3, sg3, pr3, s3, q3⟩ := w
        exact ⟨ds.length - (i + 1), by omega, rfl, hlt, G3, ι3, O3, sd3, M3, sg3, pr3, s3, q3⟩
      · obtain ⟨d, e1, e2⟩ := wk.yl i H G2 ι2 x H' sg2 s2.wd.g pr2 hlt y
        obtain ⟨G3, sg3, sm3, s3, hd⟩ := s2.draw e2
        have e3 : ds.drop i = d :: ds.drop (i + 1) := by
          obtain ⟨hl, e4⟩ := List.getElem?_eq_some_iff.mp e1
          rw [List.drop_eq_getElem_cons hl, e4]
        rw [e3, forD] at q2
        cases z2 : g d sd2 with
        | none => rw [z2] at q2; exact q2.elim
        | some sd3 =>
          rw [z2] at q2
          dsimp only at q2
          refine ⟨F, G3, ι2, O2, sd2, M2, d, s3, hd, sd3, z2, fun σ3 s4 _ => ?_⟩
          refine ⟨F, G3, ι2, O2, sd3, M2, s4, ?_⟩
          have q2 := q2.up sg3 (Pre.refl ι2)
          cases z3 : sv sd3 M2 with
          | bad => rw [z3] at q2; exact q2
          | nx sd4 M4 => rw [z3] at q2; exact fun σ' H' G' ι' O' a b s' => ⟨G', ι', O', sd4, M4, (sg2.trans sg3).trans a, pr2.trans b, s', SPo.up q2 a b⟩
          | cnt sd4 M4 => rw [z3] at q2; exact fun σ' H' G' ι' O' a b s' => ⟨G', ι', O', sd4, M4, (sg2.trans sg3).trans a, pr2.trans b, s', SPo.up q2 a b⟩
          | brk sd4 M4 => rw [z3] at q2; exact q2
          | ret d M4 => rw [z3] at q2; exact q2
          | exc x sd4 M4 => rw [z3] at q2; exact q2
    · subst heq
      rw [List.drop_length] at q2
      exact .inl ⟨wk.st H G2 sg2 s2.wd.g, q2 σ H G2 ι2 O2 (Same.refl _) (Pre.refl _) s2⟩
end

/-! ### what is walked by an expression: a name's own list, too -/
structure WkS (K : PySem.W.Frag) (mg : Str → Option Value) (ofl : Str → Str → Bool) (ow : List Nat) (p : Bool) (J : It) (H0 G : Hp) (ι : List Addr) (σ : L2.St) (sd : Sd) (ds : List D) : Prop where
  go : ∀ i F1 G1 ι1 O1 M1 H, Same G G1 → Pre ι ι1 → SR K mg ofl ow F1 G1 ι1 O1 σ sd M1 H → (p = true → Same H0 H) → i < ds.length → J.go i H
  yl : ∀ i F1 G1 ι1 O1 M1 H x H', Same G G1 → Pre ι ι1 → SR K mg ofl ow F1 G1 ι1 O1 σ sd M1 H → (p = true → Same H0 H) → i < ds.length → J.yld i H x H' → ∃ d, ds[i]? = some d ∧ ((H' = H ∧ IsD K mg G1 ι1 x d) ∨ ∃ T o, H T = none ∧ H' = upd H T o ∧ IsD K mg (upd G1 T o) ι1 x d)
  st : ∀ F1 G1 ι1 O1 M1 H, Same G G1 → Pre ι ι1 → SR K mg ofl ow F1 G1 ι1 O1 σ sd M1 H → (p = true → Same H0 H) → J.stop ds.length H
section
variable (K : PySem.W.Frag) (mg : Str → Option Value) (ofl : Str → Str → Bool) (W : WX)
def ISo (ow : List Nat) (p : Bool) (F G : Hp) (ι : List Addr) (σ : L2.St) (sd : Sd) (H : Hp) (Q : It → Hp → Prop) : R (List D) → Prop
  | .bad => False
  | .ok ds M' => ∀ J H' G' ι' O', Same G G' → Pre ι ι' → SR K mg ofl ow F G' ι' O' σ sd M' H' → WkS K mg ofl ow p J H' G' ι' σ sd ds → (p = true → Same H H') → Q J H'
  | .exc x M' => ∀ c da H' G' ι' O', Same G G' → Pre ι ι' → SR K mg ofl ow F G' ι' O' σ sd M' H' → ExR K mg G' ι' H' x c da → W c da σ H'
def tis (ow : List Nat) (p : Bool) (ev : Iv) : TI := fun σ H Q => ∃ F G ι O sd M, SR K mg ofl ow F G ι O σ sd M H ∧ ISo K mg ofl W ow p F G ι σ sd H Q (ev sd M)
end
structure PIs (ofl : Str → Str → Bool) (X : Cx) (W : WX) (ow : List Nat) (p : Bool) (tg e : Expr) (ev : Iv) : Prop where
  pi : PI X tg e (tis X.K X.mg ofl W ow p ev)
def iSeqM (a : Ev) : Iv := fun sd M => (a sd M).bind fun d M1 => R.ofO (dSeq (drf M1 d)) M1
section
variable {ofl : Str → Str → Bool} {X : Cx} {W : WX} {ow : List Nat} {p : Bool} {k : Kd} {tg e : Expr} {ev : Ev} {iv : Iv}
theorem Wk.toS {K : PySem.W.Frag} {mg : Str → Option Value} {J : It} {H0 G : Hp} {ι : List Addr} {σ : L2.St} {sd : Sd} {ds : List D} (w : Wk K mg J G ι ds) : WkS K mg ofl ow p J H0 G ι σ sd ds where
  go := fun i _ G1 _ _ _ H a _ s _ h => w.go i H G1 a s.wd.g h
  yl := fun i _ G1 ι1 _ _ H x H' a b s _ h y => w.yl i H G1 ι1 x H' a s.wd.g b h y
  st := fun _ G1 _ _ _ H a _ s _ => w.st H G1 a s.wd.g
theorem PIv.toS (h : PIv ofl X W ow p tg e iv) : PIs ofl X W ow p tg e iv := by
  refine ⟨PI.imp h.pi fun σ H R q => ?_⟩
  obtain ⟨F, G, ι, O, sd, M, s, q⟩ := q
  refine ⟨F, G, ι, O, sd, M, s, ?_⟩
  cases z : iv sd M with
  | bad => rw [z] at q; exact q
  | exc x M1 => rw [z] at q; exact q
  | ok ds M1 => rw [z] at q; exact fun J H' G' ι' O' a b s' w sm => q J H' G' ι' O' a b s' w.toS sm
/-- any list, where nothing changes meanwhile -/
theorem wk_now {K : PySem.W.Frag} {mg : Str → Option Value} {a : Addr} {H0 G : Hp} {ι : List Addr} {σ : L2.St} {sd : Sd} {vs : List V} {ds : List D} (h : SqL K H0 a vs) (hv : IsDs K mg G ι vs ds) : WkS K mg ofl ow true (Itl K a) H0 G ι σ sd ds where
  go := fun i _ G1 _ _ _ H _ _ _ sm hi => by
    obtain ⟨v, e1, _⟩ := hv.get (List.getElem?_eq_getElem hi)
    exact ⟨vs, v, Same.sql (sm rfl) h, e1⟩
  yl := fun i _ G1 ι1 _ _ H x H' sg pr s sm hi y => by
    obtain ⟨rfl, y⟩ := y
    obtain ⟨d, e1, e2⟩ := hv.getV (y vs (Same.sql (sm rfl) h))
    exact ⟨d, e1, .inl ⟨rfl, e2.mono sg pr⟩⟩
  st := fun _ _ _ _ _ H _ _ _ sm => ⟨vs, Same.sql (sm rfl) h, by rw [hv.length]; exact Nat.le_refl _⟩
/-- a name's own list -/
theorem wk_slot {K : PySem.W.Frag} {mg : Str → Option Value} {b : Addr} {i : Nat} {H0 G : Hp} {ι : List Addr} {σ : L2.St} {sd : Sd} {ds : List D} (hi : i ∈ ow) (h1 : σ[i]? = some (some (.ref b))) (h2 : sd[i]? = some (some (.lst ds))) : WkS K mg ofl ow p (Itl K b) H0 G ι σ sd ds := by
  have at_ : ∀ {F1 G1 ι1 O1 M1 H}, SR K mg ofl ow F1 G1 ι1 O1 σ sd M1 H → ∃ vs, H b = some (.lst vs) ∧ IsDs K mg G1 ι1 vs ds := fun s => by
    obtain ⟨v, e1, e2⟩ := s.sl.2 i _ h2
    rw [h1] at e1
    cases e1
    rw [if_pos hi] at e2
    obtain ⟨b2, e3, _, e4⟩ := e2
    cases e3
    exact e4
  refine ⟨fun j _ G1 _ _ _ H _ _ s _ hj => ?_, fun j _ G1 ι1 _ _ H x H' _ _ s _ hj y => ?_, fun _ _ _ _ _ H _ _ s _ => ?_⟩
  · obtain ⟨vs, e1, e2⟩ := at_ s
    obtain ⟨v, e3, _⟩ := e2.get (List.getElem?_eq_getElem hj)
    exact ⟨vs, v, .of e1, e3⟩
  · obtain ⟨vs, e1, e2⟩ := at_ s
    obtain ⟨rfl, y⟩ := y
    obtain ⟨d, e3, e4⟩ := e2.getV (y vs (.of e1))
    exact ⟨d, e3, .inl ⟨rfl, e4⟩⟩
  · obtain ⟨vs, e1, e2⟩ := at_ s
    exact ⟨vs, .of e1, by rw [e2.length]; exact Nat.le_refl _⟩
theorem pis_slot (he : PEv ofl X W ow p .sl e ev) : PIs ofl X W ow p tg e (iSeq ev) := by
  refine ⟨PI.imp (La.PI.or (pi_list he.pe) (La.PI.or (pi_tup he.pe) (pi_str he.pe))) fun σ H R q => ?_⟩
  obtain ⟨F, G, ι, O, sd, M, s, h⟩ := q
  unfold iSeq at h
  cases z : ev sd M with
  | bad => rw [z] at h; exact h.elim
  | exc x M1 =>
    rw [z] at h
    exact .inl ⟨F, G, ι, O, sd, M, s, by rw [z]; exact h⟩
  | ok d M1 =>
    rw [z] at h
    have mk : ∀ {Q : VK}, (∀ v H' G' ι' O', Same G G' → Pre ι ι' → SR X.K X.mg ofl ow F G' ι' O' σ sd M1 H' → KR X.K X.mg ow G' ι' O' H' σ sd .sl v d → (p = true → Same H H') → Q v H') → tev X.K X.mg ofl W ow p .sl ev σ H Q :=
      fun n => ⟨F, G, ι, O, sd, M, s, by rw [z]; exact n⟩
    cases d with
    | lst ds =>
      refine .inl (mk fun v H' G' ι' O' sg pr s' hd sm => ?_)
      rcases hd with hd | ⟨i, hi, e1, e2⟩
      · cases hd with
        | lst h1 h2 => exact ⟨_, rfl, ⟨_, .of (s'.wd.g _ _ h1)⟩, h _ H' G' ι' O' sg pr s' (wk_list (.of h1) h2).toS sm⟩
      · obtain ⟨v2, g1, g2⟩ := s'.sl.2 i _ e2
        rw [e1] at g1
        cases g1
        rw [if_pos hi] at g2
        obtain ⟨b, rfl, _, vs, g3, _⟩ := g2
        exact ⟨b, rfl, ⟨vs, .of g3⟩, h _ H' G' ι' O' sg pr s' (wk_slot hi e1 e2) sm⟩
    | tup ds =>
      refine .inr (.inl (mk fun v H' G' ι' O' sg pr s' hd sm => ?_))
      obtain ⟨a, vs, rfl, h1, h2⟩ := At.tup s'.wd.g (KR.at s' hd)
      have hd' := KR.at s' hd
      rcases hd' with hd' | ⟨_, _, hd'⟩
      · cases hd' with
        | tup h1 h2 => exact ⟨_, rfl, ⟨_, Same.sqt s'.wd.g h1⟩, h _ H' G' ι' O' sg pr s' (wk_tup h1 h2).toS sm⟩
      · exact hd'.elim
    | scr ns =>
      refine .inl (mk fun v H' G' ι' O' sg pr s' hd sm => ?_)
      have hd' := KR.at s' hd
      rcases hd' with hd' | ⟨_, _, hd'⟩
      · cases hd' with
        | scr h1 => exact ⟨_, rfl, ⟨_, Same.sql s'.wd.g h1⟩, h _ H' G' ι' O' sg pr s' (wk_list h1 (piv_seq.isDs_ints ns)).toS sm⟩
      · exact hd'.elim
    | str x =>
      refine .inr (.inr (mk fun v H' G' ι' O' sg pr s' hd sm => ?_))
      obtain rfl := (KR.at s' hd).str
      exact ⟨_, rfl, h _ H' G' ι' O' sg pr s' wk_str.toS sm⟩
    | _ => exact h.elim
/-- a list that stands anywhere, where nothing changes meanwhile -/
theorem pis_now (he : PEv ofl X W ow true k e ev) : PIs ofl X W ow true tg e (iSeqM ev) := by
  refine ⟨PI.imp (La.PI.or (pi_list he.pe) (La.PI.or (pi_tup he.pe) (pi_str he.pe))) fun σ H R q => ?_⟩
  obtain ⟨F, G, ι, O, sd, M, s, h⟩ := q
  unfold iSeqM at h
  cases z : ev sd M with
  | bad => rw [z] at h; exact h.elim
  | exc x M1 =>
    rw [z] at h
    exact .inl ⟨F, G, ι, O, sd, M, s, by rw [z]; exact h⟩
  | ok d M1 =>
    rw [z] at h
    have mk : ∀ {Q : VK}, (∀ v H' G' ι' O', Same G G' → Pre ι ι' → SR X.K X.mg ofl ow F G' ι' O' σ sd M1 H' → At X.K X.mg G' ι' H' v (drf M1 d) → Same H H' → Q v H') → tev X.K X.mg ofl W ow true k ev σ H Q :=
      fun n => ⟨F, G, ι, O, sd, M, s, by rw [z]; exact fun v H' G' ι' O' a b s' kr t => n v H' G' ι' O' a b s' (At.drf s'.wd (kr.at s')) (t rfl)⟩
    have h' : ISo X.K X.mg ofl W ow true F G ι σ sd H R (La.R.ofO (dSeq (drf M1 d)) M1) := h
    cases y : drf M1 d with
    | lst ds =>
      rw [y] at h' mk
      refine .inl (mk fun v H' G' ι' O' sg pr s' hd sm => ?_)
      obtain ⟨a, vs, rfl, h1, h2⟩ := hd.lst s'.wd.g
      exact ⟨_, rfl, ⟨_, .of h1⟩, h' _ H' G' ι' O' sg pr s' (wk_now (.of h1) h2) fun _ => sm⟩
    | tup ds =>
      rw [y] at h' mk
      refine .inr (.inl (mk fun v H' G' ι' O' sg pr s' hd sm => ?_))
      rcases hd with hd | ⟨_, _, hd⟩
      · cases hd with
        | tup h1 h2 => exact ⟨_, rfl, ⟨_, Same.sqt s'.wd.g h1⟩, h' _ H' G' ι' O' sg pr s' (wk_tup h1 h2).toS fun _ => sm⟩
      · exact hd.elim
    | scr ns =>
      rw [y] at h' mk
      refine .inl (mk fun v H' G' ι' O' sg pr s' hd sm => ?_)
      rcases hd with hd | ⟨_, _, hd⟩
      · cases hd with
        | scr h1 => exact ⟨_, rfl, ⟨_, Same.sql s'.wd.g h1⟩, h' _ H' G' ι' O' sg pr s' (wk_list h1 (piv_seq.isDs_ints ns)).toS fun _ => sm⟩
      · exact hd.elim
    | str x =>
      rw [y] at h' mk
      refine .inr (.inr (mk fun v H' G' ι' O' sg pr s' hd sm => ?_))
      obtain rfl := hd.str
      exact ⟨_, rfl, h' _ H' G' ι' O' sg pr s' wk_str.toS fun _ => sm⟩
    | _ => rw [y] at h'; exact h'.elim
end

end La

set_option Elab.async false
set_option linter.all false
set_option maxRecDepth 100000
/-! La9: comprehensions. -/
namespace La
open PySem PySem.Spec L2

def wipeD (sd : Sd) : List Nat → Sd
  | [] => sd
  | v :: vs => (wipeD sd vs).set v none
/-- the items of a comprehension -/
def lcD (g : Tg) (c : Tv) (e : Ev) (sd0 : Sd) : List D → Mem → R (List D)
  | [], M => .ok [] M
  | d :: ds, M => match g d sd0 with
    | none => .bad
    | some sd1 => match c sd1 M with
      | .ok true M1 => match e sd1 M1 with
        | .ok y M2 => (lcD g c e sd0 ds M2).bind fun ys M3 => .ok (y :: ys) M3
        | _ => .bad
      | .ok false M1 => lcD g c e sd0 ds M1
      | _ => .bad
def eLc (it : Iv) (vs : List Nat) (g : Tg) (c : Tv) (e : Ev) : Ev := fun sd M => (it sd M).bind fun ds M1 => if ds.length ≤ 1000000 then (lcD g c e (wipeD sd vs) ds M1).bind fun ys M2 => .ok (.lst ys) M2 else .bad
def tTrue : Tv := fun _ M => .ok true M

section
variable {K : PySem.W.Frag} {mg : Str → Option Value} {ofl : Str → Str → Bool} {ow : List Nat} {F G G' : Hp} {ι ι' : List Addr} {O O' : Addr → Option Own} {σ σ' : L2.St} {sd sd' : Sd} {M M' : Mem} {H H' : Hp}
theorem SR.clr (s : SR K mg ofl ow F G ι O σ sd M H) (i : Nat) : SR K mg ofl ow F G ι O (σ.set i none) (sd.set i none) M H := by
  refine ⟨s.wd, by rw [List.length_set, List.length_set]; exact s.sl.1, fun j d hj => ?_⟩
  by_cases q : i = j
  · subst q
    have hl := (List.getElem?_eq_some_iff.mp hj).1
    rw [List.length_set] at hl
    rw [List.getElem?_set_self hl] at hj
    cases hj
  · rw [List.getElem?_set_ne q] at hj
    obtain ⟨u, h1, h2⟩ := s.sl.2 j d hj
    exact ⟨u, by rw [List.getElem?_set_ne q]; exact h1, h2⟩
theorem SR.wipe (s : SR K mg ofl ow F G ι O σ sd M H) : ∀ vs : List Nat, SR K mg ofl ow F G ι O (L2.wipe σ vs) (wipeD sd vs) M H
  | [] => s
  | v :: vs => (SR.wipe s vs).clr v
theorem wipe_at (σ : L2.St) : ∀ (vs : List Nat) (j : Nat), (L2.wipe σ vs)[j]? = if j ∈ vs ∧ j < σ.length then some none else σ[j]?
  | [], j => by simp [L2.wipe]
  | v :: vs, j => by
    show ((L2.wipe σ vs).set v none)[j]? = _
    by_cases q : v = j
    · subst q
      by_cases hl : v < σ.length
      · rw [List.getElem?_set_self (by rw [wipe_length]; exact hl), if_pos ⟨List.mem_cons_self, hl⟩]
      · rw [if_neg fun z => hl z.2, List.getElem?_eq_none (by rw [List.length_set, wipe_length]; omega), List.getElem?_eq_none (by omega)]
    · rw [List.getElem?_set_ne q, wipe_at σ vs j]
      by_cases hj : j ∈ vs ∧ j < σ.length
      · rw [if_pos hj, if_pos ⟨List.mem_cons_of_mem _ hj.1, hj.2⟩]
      · rw [if_neg hj, if_neg fun z => hj ⟨(List.mem_cons.mp z.1).resolve_left fun w => q w.symm, z.2⟩]
theorem wipeD_at (σ : Sd) : ∀ (vs : List Nat) (j : Nat), j ∉ vs → (wipeD σ vs)[j]? = σ[j]?
  | [], j, _ => rfl
  | v :: vs, j, h => by
    show ((wipeD σ vs).set v none)[j]? = _
    rw [List.getElem?_set_ne fun z => h (by simp [z]), wipeD_at σ vs j fun z => h (List.mem_cons_of_mem _ z)]
/-- a target within the block's own names leaves the rest -/
theorem wipe_only {vs ts : List Nat} (o : OnlyAt ts (L2.wipe σ vs) σ') (sub : ∀ j ∈ ts, j ∈ vs) : L2.wipe σ' vs = L2.wipe σ vs := by
  apply List.ext_getElem?
  intro j
  have hl : σ'.length = σ.length := by rw [o.1, wipe_length]
  rw [wipe_at, wipe_at, hl]
  by_cases q : j ∈ vs ∧ j < σ.length
  · rw [if_pos q, if_pos q]
  · rw [if_neg q, if_neg q]
    by_cases hj : j ∈ vs
    · have : ¬ j < σ.length := fun z => q ⟨hj, z⟩
      rw [List.getElem?_eq_none (by omega), List.getElem?_eq_none (by omega)]
    · rw [o.2 j fun z => hj (sub j z), wipe_at, if_neg fun z => hj z.1]
/-- the frame's names stand as ahead of the block -/
theorem SR.unwipe {vs : List Nat} {F' : Hp} (s : SR K mg ofl ow F' G ι O σ sd M H) (s2 : SR K mg ofl ow F G' ι' O' σ' sd' M' H') (sg : Same G G') (pr : Pre ι ι') (hs : ∀ j, j ∉ vs → σ'[j]? = σ[j]?) (hd : ∀ j, j ∉ vs → sd'[j]? = sd[j]?) (hv : ∀ j ∈ vs, j ∉ ow) :
    SR K mg ofl ow F G' ι' O' σ sd M' H' := by
  refine ⟨s2.wd, s.sl.1, fun j d hj => ?_⟩
  by_cases q : j ∈ ow
  · have nv : j ∉ vs := fun z => hv j z q
    obtain ⟨v, h1, h2⟩ := s2.sl.2 j d (by rw [hd j nv]; exact hj)
    exact ⟨v, by rw [← hs j nv]; exact h1, h2⟩
  · obtain ⟨v, h1, h2⟩ := s.sl.2 j d hj
    rw [if_neg q] at h2
    exact ⟨v, h1, by rw [if_neg q]; exact h2.mono sg pr⟩
/-- a new thing that stands aside -/
theorem SR.laidF (s : SR K mg ofl ow F G ι O σ sd M H) {p : Addr} {o : HO} (hp : H p = none) : SR K mg ofl ow (upd F p o) G ι O σ sd M (upd H p o) := by
  have hg : G p = none := s.wd.g.free hp
  have ho := s.wd.noO hp
  have s' := s.go (O' := O) (G' := G) (H' := upd H p o) (Same.refl G) (Same.put s.wd.g hg) (Same.put s.wd.f (s.wd.f.free hp)) (fun a e => by
    obtain ⟨h1, h2, h3⟩ := s.wd.og a e
    exact ⟨h1, h2, by rw [upd_ne fun z => h3 (by rw [z]; exact hp)]; exact h3⟩) s.wd.gf fun b u e _ => ⟨e, upd_ne fun z => by rw [z, ho] at e; cases e⟩
  refine ⟨⟨s'.wd.g, Same.upd2 s.wd.f, fun a e => ?_, fun a e => ?_, s'.wd.len, s'.wd.at_⟩, s'.sl⟩
  · obtain ⟨h1, h2, h3⟩ := s'.wd.og a e
    exact ⟨h1, by rw [upd_ne fun z => by rw [z, ho] at e; exact e rfl]; exact h2, h3⟩
  · rw [upd_ne fun z => e (by rw [z]; exact hg)]
    exact s.wd.gf a e
/-- it is changed -/
theorem SR.chF {p : Addr} {o o' : HO} (s : SR K mg ofl ow (upd F p o) G ι O σ sd M H) : SR K mg ofl ow (upd F p o') G ι O σ sd M (upd H p o') ∧ H p = some o := by
  have hp : H p = some o := s.wd.f _ _ upd_same
  have ho : O p = none := by
    cases e : O p with
    | none => rfl
    | some u =>
      have := (s.wd.og p (by rw [e]; simp)).2.1
      rw [upd_same] at this
      cases this
  have hg : G p = none := by
    cases e : G p with
    | none => rfl
    | some u =>
      have := s.wd.gf p (by rw [e]; simp)
      rw [upd_same] at this
      cases this
  refine ⟨⟨⟨Same.put s.wd.g hg, fun b u e => ?_, fun a e => ?_, fun a e => ?_, s.wd.len, fun l u e => ?_⟩, s.sl.mono (Same.refl G) (Pre.refl ι) fun b i _ e => ⟨e, upd_ne fun z => by rw [z, ho] at e; cases e⟩⟩, hp⟩
  · by_cases q : b = p
    · subst q
      rw [upd_same] at e ⊢
      exact e
    · rw [upd_ne q] at e ⊢
      exact s.wd.f b u (by rw [upd_ne q]; exact e)
  · have q : a ≠ p := fun z => e (by rw [z]; exact ho)
    obtain ⟨h1, h2, h3⟩ := s.wd.og a e
    rw [upd_ne q] at h2
    exact ⟨h1, by rw [upd_ne q]; exact h2, by rw [upd_ne q]; exact h3⟩
  · have q : a ≠ p := fun z => e (by rw [z]; exact hg)
    have := s.wd.gf a e
    rw [upd_ne q] at this ⊢
    exact this
  · obtain ⟨a, h1, h2, h3⟩ := s.wd.at_ l u e
    exact ⟨a, h1, h2, h3.mono (Same.refl G) (Pre.refl ι) (upd_ne fun z => by rw [z, ho] at h2; cases h2) fun b f e => ⟨e, upd_ne fun z => by rw [z, ho] at e; cases e⟩⟩
/-- it becomes one's own -/
theorem SR.ofF {p : Addr} {o : HO} (s : SR K mg ofl ow (upd F p o) G ι O σ sd M H) (hf : F p = none) : SR K mg ofl ow F G ι (updO O p (some .tmp)) σ sd M H := by
  have hp : H p = some o := s.wd.f _ _ upd_same
  have ho : O p = none := by
    cases e : O p with
    | none => rfl
    | some u =>
      have := (s.wd.og p (by rw [e]; simp)).2.1
      rw [upd_same] at this
      cases this
  have hg : G p = none := by
    cases e : G p with
    | none => rfl
    | some u =>
      have := s.wd.gf p (by rw [e]; simp)
      rw [upd_same] at this
      cases this
  have ne : ∀ b, O b ≠ none → b ≠ p := fun b e z => e (by rw [z]; exact ho)
  refine ⟨⟨s.wd.g, fun b u e => s.wd.f b u (by rw [upd_ne (ne_of_none e hf)]; exact e), fun a e => ?_, fun a e => ?_, s.wd.len, fun l u e => ?_⟩, s.sl.mono (Same.refl G) (Pre.refl ι) fun b i _ e => ⟨by rw [updO_ne (ne b (by rw [e]; simp))]; exact e, rfl⟩⟩
  · by_cases q : a = p
    · subst q
      exact ⟨hg, hf, by rw [hp]; simp⟩
    · rw [updO_ne q] at e
      obtain ⟨h1, h2, h3⟩ := s.wd.og a e
      rw [upd_ne q] at h2
      exact ⟨h1, h2, h3⟩
  · have q : a ≠ p := fun z => e (by rw [z]; exact hg)
    have := s.wd.gf a e
    rw [upd_ne q] at this
    exact this
  · obtain ⟨a, h1, h2, h3⟩ := s.wd.at_ l u e
    exact ⟨a, h1, by rw [updO_ne (ne a (by rw [h2]; simp))]; exact h2, h3.mono (Same.refl G) (Pre.refl ι) rfl fun b f e => ⟨by rw [updO_ne (ne b (by rw [e]; simp))]; exact e, rfl⟩⟩
end

section
variable {ofl : Str → Str → Bool} {X : Cx} {W : WX} {ow ts : List Nat} {p : Bool} {tg elt iter : Expr} {ev : Ev} {iv : Iv} {g : Tg} {c : Tv} {pos : Pos} {ifs : List Expr} {scope : Scope} {own : List (Str × Nat)}
abbrev Wno : WX := fun _ _ _ _ => False
structure PTsv (ofl : Str → Str → Bool) (X : Cx) (W : WX) (ow : List Nat) (p : Bool) (es : List Expr) (ev : Tv) : Prop where
  pt : PTs X es (ttv X.K X.mg ofl W ow p ev)
theorem PTs.imp {X : Cx} {e : List Expr} {t u : TT} (h : PTs X e t) (i : ∀ σ H Q, u σ H Q → t σ H Q) : PTs X e u := ⟨fun pins s σ H Q I q => h.run pins s σ H Q I (i σ H Q q)⟩
theorem ptsv_nil : PTsv ofl X W ow p [] tTrue := by
  refine ⟨PTs.imp pts_nil fun σ H Q q => ?_⟩
  obtain ⟨F, G, ι, O, sd, M, s, q⟩ := q
  exact q H G ι O (Same.refl G) (Pre.refl ι) s fun _ => Same.refl H
theorem ptsv_one {e : Expr} (h : PTv ofl X W ow p e c) : PTsv ofl X W ow p [e] c := ⟨pts_one h.pt⟩
theorem imp_lc {vs : List Nat} (only : ∀ d sd sd', g d sd = some sd' → SOnly ts sd sd') (sub : ∀ j ∈ ts, j ∈ vs) (hv : ∀ j ∈ vs, j ∉ ow) {σ : L2.St} {H : Hp} {Q : VK} (h : tev X.K X.mg ofl W ow p .own (eLc iv vs g c ev) σ H Q) :
    tLc (tis X.K X.mg ofl W ow p iv) (tgv X.K X.mg ofl ow ts g) (ttv X.K X.mg ofl Wno ow p c) (tev X.K X.mg ofl Wno ow p .dat ev) vs σ H Q := by
  obtain ⟨F, G, ι, O, sd, M, s, h⟩ := h
  refine ⟨F, G, ι, O, sd, M, s, ?_⟩
  unfold eLc at h
  cases z : iv sd M with
  | bad => rw [z] at h; exact h
  | exc x M1 => rw [z] at h; exact h
  | ok ds M1 =>
    rw [z] at h
    dsimp only [R.bind_ok] at h
    intro J H1 G1 ι1 O1 sg1 pr1 s1 wk q1 D hD
    by_cases hlen : ds.length ≤ 1000000
    · rw [if_pos hlen] at h
      have h1 := h.up sg1 pr1 q1
      have fD : F D = none := s1.wd.f.free hD
      refine ⟨fun i m H => m = ds.length - i ∧ i ≤ ds.length ∧ ∃ G2 ι2 O2 M2 av acc, Same G1 G2 ∧ Pre ι1 ι2 ∧ SR X.K X.mg ofl ow (upd F D (.lst av)) G2 ι2 O2 σ sd M2 H ∧ IsDs X.K X.mg G2 ι2 av acc ∧ acc.length ≤ i ∧ (p = true → Same H1 H) ∧
          EPo X.K X.mg ofl W ow p .own F G2 ι2 σ sd H1 Q ((lcD g c ev (wipeD sd vs) (ds.drop i) M2).bind fun ys M3 => .ok (.lst (acc ++ ys)) M3),
        ⟨_, rfl, Nat.zero_le _, G1, ι1, O1, M1, [], [], Same.refl _, Pre.refl _, s1.laidF hD, .nil, Nat.le_refl _, fun _ => Same.upd hD, h1⟩, fun i m H w => ?_⟩
      obtain ⟨rfl, hil, G2, ι2, O2, M2, av, acc, sg2, pr2, s2, ha, hal, sm2, q2⟩ := w
      rcases Nat.lt_or_eq_of_le hil with hlt | heq
      · refine .inr ⟨wk.go i _ G2 ι2 O2 M2 H sg2 pr2 s2 sm2 hlt, fun H => ∃ G3 ι3 O3 M3 av acc, Same G1 G3 ∧ Pre ι1 ι3 ∧ SR X.K X.mg ofl ow (upd F D (.lst av)) G3 ι3 O3 σ sd M3 H ∧ IsDs X.K X.mg G3 ι3 av acc ∧ acc.length ≤ i + 1 ∧ (p = true → Same H1 H) ∧
            EPo X.K X.mg ofl W ow p .own F G3 ι3 σ sd H1 Q ((lcD g c ev (wipeD sd vs) (ds.drop (i + 1)) M3).bind fun ys M4 => .ok (.lst (acc ++ ys)) M4), fun H' w => ?_, fun x H' y => ?_⟩
        · obtain ⟨G3, ι3, O3, M3, av3, acc3, b1, b2, b3, b4, b5, b6, b7⟩ := w
          exact ⟨ds.length - (i + 1), by omega, rfl, hlt, G3, ι3, O3, M3, av3, acc3, b1, b2, b3, b4, b5, b6, b7⟩
        · obtain ⟨d, e1, e2⟩ := wk.yl i _ G2 ι2 O2 M2 H x H' sg2 pr2 s2 sm2 hlt y
          obtain ⟨G3, sg3, sm3, s3, hd⟩ := s2.draw e2
          have e3 : ds.drop i = d :: ds.drop (i + 1) := by
            obtain ⟨hl, e4⟩ := List.getElem?_eq_some_iff.mp e1
            rw [List.drop_eq_getElem_cons hl, e4]
          rw [e3, lcD] at q2
          cases z2 : g d (wipeD sd vs) with
          | none => rw [z2] at q2; exact q2.elim
          | some sd3 =>
            rw [z2] at q2
            dsimp only at q2
            have o3 := only _ _ _ z2
            have hd3 : ∀ j, j ∉ vs → sd3[j]? = sd[j]? := fun j hj => by rw [o3.2 j fun z => hj (sub j z), wipeD_at sd vs j hj]
            refine ⟨_, G3, ι2, O2, wipeD sd vs, M2, d, s3.wipe vs, hd, sd3, z2, fun σ3 s4 oσ => ⟨wipe_only oσ sub, ?_⟩⟩
            have hs3 : ∀ j, j ∉ vs → σ3[j]? = σ[j]? := fun j hj => by rw [oσ.2 j fun z => hj (sub j z), wipe_at, if_neg fun z => hj z.1]
            refine ⟨_, G3, ι2, O2, sd3, M2, s4, ?_⟩
            cases z3 : c sd3 M2 with
            | bad => rw [z3] at q2; exact q2
            | exc x M4 => rw [z3] at q2; exact q2.elim
            | ok k M4 =>
              rw [z3] at q2
              intro H4 G4 ι4 O4 sg4 pr4 s5 q4
              cases k with
              | false =>
                rw [if_neg Bool.false_ne_true]
                refine ⟨G4, ι4, O4, M4, av, acc, (sg2.trans sg3).trans sg4, pr2.trans pr4, s3.unwipe s5 sg4 pr4 hs3 hd3 hv, ha.mono (sg3.trans sg4) pr4, by omega, fun t => ((sm2 t).trans sm3).trans (q4 t), ?_⟩
                exact EPo.up q2 (sg3.trans sg4) pr4 fun _ => Same.refl _
              | true =>
                rw [if_pos rfl]
                dsimp only at q2
                refine ⟨_, G4, ι4, O4, sd3, M4, s5, ?_⟩
                cases z4 : ev sd3 M4 with
                | bad => rw [z4] at q2; exact q2
                | exc x M5 => rw [z4] at q2; exact q2.elim
                | ok yd M5 =>
                  rw [z4] at q2
                  dsimp only at q2
                  intro yv H5 G5 ι5 O5 sg5 pr5 s6 hy q5
                  have s7 := s3.unwipe s6 (sg4.trans sg5) (pr4.trans pr5) hs3 hd3 hv
                  obtain ⟨s8, hD5⟩ := s7.chF (o' := .lst (av ++ [yv]))
                  have hal2 : av.length ≤ i := by rw [ha.length]; exact hal
                  have hz : sizeLine = 16777216 := PySem.sizeLine_eq
                  refine ⟨av, hD5, by omega, G5, ι5, O5, M5, av ++ [yv], acc ++ [yd], ((sg2.trans sg3).trans sg4).trans sg5, (pr2.trans pr4).trans pr5, s8, (ha.mono ((sg3.trans sg4).trans sg5) (pr4.trans pr5)).append (.cons hy .nil), by rw [List.length_append]; simp; exact hal, fun t => ?_, ?_⟩
                  · have t5 : Same H1 H5 := (((sm2 t).trans sm3).trans (q4 t)).trans (q5 t)
                    exact Same.put t5 hD
                  · have q6 := EPo.up q2 ((sg3.trans sg4).trans sg5) (pr4.trans pr5) fun _ => Same.refl _
                    cases z6 : lcD g c ev (wipeD sd vs) (ds.drop (i + 1)) M5 with
                    | bad => rw [z6] at q6; exact q6
                    | exc x M6 => rw [z6] at q6; exact q6
                    | ok ys M6 =>
                      rw [z6] at q6
                      simp only [R.bind_ok, List.append_assoc, List.singleton_append] at q6 ⊢
                      exact q6
      · subst heq
        rw [List.drop_length, lcD] at q2
        simp only [R.bind_ok, List.append_nil] at q2
        exact .inl ⟨wk.st _ G2 ι2 O2 M2 H sg2 pr2 s2 sm2, q2 _ H G2 ι2 _ (Same.refl _) (Pre.refl _) (s2.ofF fD) ⟨D, rfl, updO_same, av, s2.wd.f _ _ upd_same, ha⟩ sm2⟩
    · rw [if_neg hlen] at h
      exact h.elim
theorem pev_lcO (hc : X.calm = true) (hN : X.N.Nodup) (hi : PIs ofl X W ow p tg iter iv) (ok : BlkOk X.N X.env.scope scope own)
    (hg : ∀ (s : Shared) (H : Hp) (C : Addr) (cl : List (Str × Addr)) (fp : List Addr), PGv ofl (X.blk s H scope (compEnvC scope cl C X.env) fp) ow ts tg g)
    (ht : ∀ (s : Shared) (H : Hp) (C : Addr) (cl : List (Str × Addr)) (fp : List Addr), PTsv ofl (X.blk s H scope (compEnvC scope cl C X.env) fp) Wno ow p ifs c)
    (he : ∀ (s : Shared) (H : Hp) (C : Addr) (cl : List (Str × Addr)) (fp : List Addr), PEv ofl (X.blk s H scope (compEnvC scope cl C X.env) fp) Wno ow p .dat elt ev)
    (hs : ∀ x, foldedSetIterable iter X.env x = pure x := by intro _; rfl) (sub : ∀ j ∈ ts, j ∈ own.map (·.2) := by decide) (hv : ∀ j ∈ own.map (·.2), j ∉ ow := by decide) :
    PEv ofl X W ow p .own (.ListComp elt [⟨tg, iter, ifs, 0⟩] scope pos) (eLc iv (own.map (·.2)) g c ev) :=
  ⟨⟨fun pins s σ H Q I q => (pe_lc hc hN hi.pi ok (fun s H C cl fp => (hg s H C cl fp).pg) (fun s H C cl fp => (ht s H C cl fp).pt) (fun s H C cl fp => (he s H C cl fp).pe) hs).run pins s σ H Q I (imp_lc (hg s H 0 [] []).only sub hv q)⟩⟩
/-- name = [..] -/
theorem psv_setLcG {ro : Bool} {i : Nat} {y : Str} {py spos : Pos} {sv : Sv} (hc : X.calm = true) (hN : X.N.Nodup) (hy : X.N[i]? = some y) (hyl : X.env.scope.names.lookup y = some .local)
    (hsw : swapsWith (.ListComp elt [⟨tg, iter, ifs, 0⟩] scope pos) (some (.Name y py)) spos.line X.env = pure true) (hi : PIs ofl X W ow p tg iter iv) (ok : BlkOk X.N X.env.scope scope own)
    (hg : ∀ (s : Shared) (H : Hp) (C : Addr) (cl : List (Str × Addr)) (fp : List Addr), PGv ofl (X.blk s H scope (compEnvC scope cl C X.env) fp) ow ts tg g)
    (ht : ∀ (s : Shared) (H : Hp) (C : Addr) (cl : List (Str × Addr)) (fp : List Addr), PTsv ofl (X.blk s H scope (compEnvC scope cl C X.env) fp) Wno ow p ifs c)
    (he : ∀ (s : Shared) (H : Hp) (C : Addr) (cl : List (Str × Addr)) (fp : List Addr), PEv ofl (X.blk s H scope (compEnvC scope cl C X.env) fp) Wno ow p .dat elt ev)
    (sub : ∀ j ∈ ts, j ∈ own.map (·.2)) (hv : ∀ j ∈ own.map (·.2), j ∉ ow) (hs : ∀ x, foldedSetIterable iter X.env x = pure x)
    (h : ∀ (D : Ends) (σ : L2.St) (H : Hp), tsv X.K X.mg ofl W ow ow ro sv D σ H → tev X.K X.mg ofl W ow p .own (eLc iv (own.map (·.2)) g c ev) σ H fun x H1 => gName i x σ H1 D.nx) :
    PSv ofl X W ow ow ro (.Assign [.Name y py] (.ListComp elt [⟨tg, iter, ifs, 0⟩] scope pos) spos) sv :=
  ⟨⟨fun pins s σ H D I q => (ps_setLc hc hN hy hyl hsw hi.pi ok (fun s H C cl fp => (hg s H C cl fp).pg) (fun s H C cl fp => (ht s H C cl fp).pt) (fun s H C cl fp => (he s H C cl fp).pe) hs).run pins s σ H D I (imp_lc (hg s H 0 [] []).only sub hv (h D σ H q))⟩⟩
theorem psv_setLcO {ro : Bool} {i : Nat} {y : Str} {py spos : Pos} (hc : X.calm = true) (hN : X.N.Nodup) (hy : X.N[i]? = some y) (hyl : X.env.scope.names.lookup y = some .local)
    (hsw : swapsWith (.ListComp elt [⟨tg, iter, ifs, 0⟩] scope pos) (some (.Name y py)) spos.line X.env = pure true) (hi : PIs ofl X W ow p tg iter iv) (ok : BlkOk X.N X.env.scope scope own)
    (hg : ∀ (s : Shared) (H : Hp) (C : Addr) (cl : List (Str × Addr)) (fp : List Addr), PGv ofl (X.blk s H scope (compEnvC scope cl C X.env) fp) ow ts tg g)
    (ht : ∀ (s : Shared) (H : Hp) (C : Addr) (cl : List (Str × Addr)) (fp : List Addr), PTsv ofl (X.blk s H scope (compEnvC scope cl C X.env) fp) Wno ow p ifs c)
    (he : ∀ (s : Shared) (H : Hp) (C : Addr) (cl : List (Str × Addr)) (fp : List Addr), PEv ofl (X.blk s H scope (compEnvC scope cl C X.env) fp) Wno ow p .dat elt ev)
    (how : ow.contains i = true) (sub : ∀ j ∈ ts, j ∈ own.map (·.2) := by decide) (hv : ∀ j ∈ own.map (·.2), j ∉ ow := by decide) (hs : ∀ x, foldedSetIterable iter X.env x = pure x := by intro _; rfl) :
    PSv ofl X W ow ow ro (.Assign [.Name y py] (.ListComp elt [⟨tg, iter, ifs, 0⟩] scope pos) spos) (sSet i (eLc iv (own.map (·.2)) g c ev)) :=
  psv_setLcG hc hN hy hyl hsw hi ok hg ht he sub hv hs fun D σ H q => by
    obtain ⟨F, G, ι, O, sd, M, s, q⟩ := q
    refine seq_s s q fun d M1 v H1 G1 ι1 O1 sg1 pr1 s1 k1 h1 => ?_
    obtain ⟨b, rfl, h2, h3⟩ := k1
    exact h1 _ H1 G1 ι1 _ sg1 pr1 (s1.setO (by simpa using how) h2 h3)
theorem psv_setLc {ro : Bool} {i : Nat} {y : Str} {py spos : Pos} (hc : X.calm = true) (hN : X.N.Nodup) (hy : X.N[i]? = some y) (hyl : X.env.scope.names.lookup y = some .local)
    (hsw : swapsWith (.ListComp elt [⟨tg, iter, ifs, 0⟩] scope pos) (some (.Name y py)) spos.line X.env = pure true) (hi : PIs ofl X W ow p tg iter iv) (ok : BlkOk X.N X.env.scope scope own)
    (hg : ∀ (s : Shared) (H : Hp) (C : Addr) (cl : List (Str × Addr)) (fp : List Addr), PGv ofl (X.blk s H scope (compEnvC scope cl C X.env) fp) ow ts tg g)
    (ht : ∀ (s : Shared) (H : Hp) (C : Addr) (cl : List (Str × Addr)) (fp : List Addr), PTsv ofl (X.blk s H scope (compEnvC scope cl C X.env) fp) Wno ow p ifs c)
    (he : ∀ (s : Shared) (H : Hp) (C : Addr) (cl : List (Str × Addr)) (fp : List Addr), PEv ofl (X.blk s H scope (compEnvC scope cl C X.env) fp) Wno ow p .dat elt ev)
    (how : ow.contains i = false) (sub : ∀ j ∈ ts, j ∈ own.map (·.2) := by decide) (hv : ∀ j ∈ own.map (·.2), j ∉ ow := by decide) (hs : ∀ x, foldedSetIterable iter X.env x = pure x := by intro _; rfl) :
    PSv ofl X W ow ow ro (.Assign [.Name y py] (.ListComp elt [⟨tg, iter, ifs, 0⟩] scope pos) spos) (sSet i (eLc iv (own.map (·.2)) g c ev)) :=
  psv_setLcG hc hN hy hyl hsw hi ok hg ht he sub hv hs fun D σ H q => by
    obtain ⟨F, G, ι, O, sd, M, s, q⟩ := q
    refine seq_s s q fun d M1 v H1 G1 ι1 O1 sg1 pr1 s1 k1 h1 => ?_
    obtain ⟨b, rfl, h2, h3⟩ := k1
    obtain ⟨G2, s2, sg2, i2⟩ := s1.freeze h2 h3
    exact h1 _ H1 G2 ι1 _ (sg1.trans sg2) pr1 (s2.set (by simpa using how) i2)
end
end La

set_option Elab.async false
set_option linter.all false
set_option maxRecDepth 100000
/-! La10: defs and their calls. -/
namespace La
open PySem PySem.Spec L2
open PyProof.Rows (envOfC)

/-- what the memory alone owns -/
def MemO (O : Addr → Option Own) : Prop := ∀ a o, O a = some o → (∃ l, o = .obj l) ∨ ∃ l f, o = .fld l f
def limO (O : Addr → Option Own) : Addr → Option Own := fun a => match O a with
  | some (.obj l) => some (.obj l)
  | some (.fld l f) => some (.fld l f)
  | _ => none
theorem limO_mem (O : Addr → Option Own) : MemO (limO O) := fun a o e => by
  unfold limO at e
  split at e
  · cases e; exact .inl ⟨_, rfl⟩
  · cases e; exact .inr ⟨_, _, rfl⟩
  · cases e
theorem limO_some {O : Addr → Option Own} {a : Addr} {o : Own} (e : limO O a = some o) : O a = some o := by
  unfold limO at e
  split at e
  · rename_i h; cases e; exact h
  · rename_i h; cases e; exact h
  · cases e
theorem limO_obj {O : Addr → Option Own} {a : Addr} {o : Own} (e : O a = some o) (h : (∃ l, o = .obj l) ∨ ∃ l f, o = .fld l f) : limO O a = some o := by
  unfold limO
  rcases h with ⟨l, rfl⟩ | ⟨l, f, rfl⟩ <;> rw [e]

section
variable (K : PySem.W.Frag) (mg : Str → Option Value) (ofl : Str → Str → Bool)
def FPo (ro : Bool) (F G : Hp) (ι : List Addr) (Q : VK) (E : XK) : R D → Prop
  | .bad => False
  | .ok d M' => ∀ v H' G' ι' O', Same G G' → Pre ι ι' → Wd K mg ofl F G' ι' O' M' H' → (if ro then ∃ b, v = .ref b ∧ O' b = some .tmp ∧ Cn K mg G' ι' H' b d else IsD K mg G' ι' v d) → (∀ a o, O' a = some o → (∃ l, o = .obj l) ∨ (∃ l f, o = .fld l f) ∨ o = .tmp) → Q v H'
  | .exc x M' => ∀ c da H' G' ι' O', Same G G' → Pre ι ι' → Wd K mg ofl F G' ι' O' M' H' → MemO O' → ExR K mg G' ι' H' x c da → E c da H'
/-- THE PROMISE of a def: what its function f on data says -/
def spv (ro : Bool) (n : Nat) (f : List D → Mem → R D) : Sp := fun vs H Q E => vs.length = n ∧ ∃ F G ι O M ds, Wd K mg ofl F G ι O M H ∧ MemO O ∧ IsDs K mg G ι vs ds ∧ FPo K mg ofl ro F G ι Q E (f ds M)
end
/-- the function of a def's body: n parameters, N names -/
def fnv (n N : Nat) (b : Sv) : List D → Mem → R D := fun ds M => if ds.length = n then match b (ds.map some ++ List.replicate (N - n) none) M with
  | .ret d M' => .ok d M'
  | .nx _ M' => .ok .non M'
  | .exc x _ M' => .exc x M'
  | _ => .bad else .bad

section
variable {K : PySem.W.Frag} {mg : Str → Option Value} {ofl : Str → Str → Bool} {F G : Hp} {ι : List Addr} {O : Addr → Option Own} {M : Mem} {H : Hp} {ow : List Nat} {σ : L2.St} {sd : Sd}
/-- some of what is owned is given up -/
theorem Wd.sub (w : Wd K mg ofl F G ι O M H) {O' : Addr → Option Own} (sub : ∀ a, O' a ≠ none → O a ≠ none) (k : ∀ a o, O a = some o → (∃ l, o = .obj l) ∨ (∃ l f, o = .fld l f) → O' a = some o) : Wd K mg ofl F G ι O' M H :=
  w.go (Same.refl G) w.g w.f (fun a e => w.og a (sub a e)) w.gf fun b o e z => ⟨k b o e z, rfl⟩
theorem Wd.lim (w : Wd K mg ofl F G ι O M H) : Wd K mg ofl F G ι (limO O) M H := w.sub (fun a e => by
  cases q : limO O a with
  | none => exact absurd q e
  | some o => rw [limO_some q]; simp) fun a o e z => limO_obj e z
theorem start_sl {ps : Nat} {N : Nat} {vs : List V} {ds : List D} (hv : IsDs K mg G ι vs ds) (hn : vs.length = ps) (ho : ∀ i ∈ ow, ps ≤ i) : SlR K mg ow G ι O H (vs.map some ++ List.replicate (N - vs.length) none) (ds.map some ++ List.replicate (N - ps) none) := by
  have hl := hv.length
  refine ⟨by simp [hl]; omega, fun i d e => ?_⟩
  by_cases q : i < ds.length
  · rw [List.getElem?_append_left (by simpa using q), List.getElem?_map] at e
    have e' : ds[i]? = some d := by
      cases z : ds[i]? with
      | none => rw [z] at e; cases e
      | some d' => rw [z] at e; cases e; rfl
    obtain ⟨v, h1, h2⟩ := hv.get e'
    refine ⟨v, by rw [List.getElem?_append_left (by rw [List.length_map]; omega), List.getElem?_map, h1]; rfl, ?_⟩
    rw [if_neg fun z => by have := ho i z; omega]
    exact h2
  · rw [List.getElem?_append_right (by simpa using q)] at e
    rw [List.getElem?_replicate] at e
    split at e
    · cases e
    · cases e
end

section
variable {P : Program} {w : World} {K : PySem.W.Frag} {mg : Str → Option Value} {base : Heap} {ofl : Str → Str → Bool}
/-- the wish of a def's body -/
abbrev WB (E : XK) : WX := fun cls d _ H => E cls d H
theorem takesB {N : List Str} {qual : Str} {sc : Scope} {f : Addr} {cd : Value} {A : Around} {outer : List Env} {s : Shared} {H : Hp} {E : XK} : Takes (cxOf (L2.CX P w) P w K mg base N qual sc f cd A outer s H E) (WB E) := takes_of rfl rfl rfl rfl
theorem passB {N : List Str} {qual : Str} {sc : Scope} {f : Addr} {cd : Value} {A : Around} {outer : List Env} {s : Shared} {H : Hp} {E : XK} : PassesOwn (model P w) (cxOf (L2.CX P w) P w K mg base N qual sc f cd A outer s H E).A (envOfC qual sc s.heap.objs.size f cd) (cxOf (L2.CX P w) P w K mg base N qual sc f cd A outer s H E).xe := passes_of rfl
theorem body_sp {N ps : List Str} {qual : Str} {sc : Scope} {f : Addr} {cd : Value} {A : Around} {outer : List Env} {s : Shared} {H : Hp} {E : XK} {ow ow' : List Nat} {ro : Bool} {body : List Stmt} {ev : Sv} {vs : List V} {Q : VK} (ho : ∀ i ∈ ow, ps.length ≤ i) (hnx : ro = true → ∀ sd M sd' M', ev sd M ≠ .nx sd' M')
    (h : PBv ofl (cxOf (L2.CX P w) P w K mg base N qual sc f cd A outer s H E) (WB E) ow ow' ro body ev) (q : spv K mg ofl ro ps.length (fnv ps.length N.length ev) vs H Q E) :
    ∃ t, PSs (cxOf (L2.CX P w) P w K mg base N qual sc f cd A outer s H E) body t ∧ t { nx := fun _ H' => Q .non H', rt := Q } (start N vs) H := by
  refine ⟨_, h.ps, ?_⟩
  obtain ⟨hl, F, G, ι, O, M, ds, wd, mo, hv, q⟩ := q
  refine ⟨F, G, ι, O, _, M, ⟨wd, start_sl hv hl ho⟩, ?_⟩
  unfold fnv at q
  rw [if_pos (show ds.length = ps.length by rw [← hv.length]; exact hl)] at q
  cases z : ev (ds.map some ++ List.replicate (N.length - ps.length) none) M with
  | bad => rw [z] at q; exact q
  | brk sd' M' => rw [z] at q; exact q.elim
  | cnt sd' M' => rw [z] at q; exact q.elim
  | exc x sd' M' =>
    rw [z] at q
    exact fun c da σ' H' G' ι' O' a b s' e => q c da H' G' ι' _ a b s'.wd.lim (limO_mem O') e
  | nx sd' M' =>
    rw [z] at q
    intro σ' H' G' ι' O' a b s'
    cases ro with
    | false => exact q .non H' G' ι' _ a b s'.wd.lim .non fun a o e => (limO_mem O' a o e).elim .inl fun z => .inr (.inl z)
    | true => exact absurd z (hnx rfl _ _ _ _)
  | ret d M' =>
    rw [z] at q
    intro v H' G' ι' O' a b wd' hd
    cases ro with
    | false => exact q v H' G' ι' _ a b wd'.lim hd fun a o e => (limO_mem O' a o e).elim .inl fun z => .inr (.inl z)
    | true =>
      obtain ⟨u, rfl, ⟨o, h1, h2, h3⟩, h4⟩ := hd
      refine q _ H' G' ι' (updO (limO O') u (some .tmp)) a b (wd'.sub (fun a e => ?_) fun a o' e z => ?_) ⟨u, rfl, updO_same, h4⟩ fun a o' e => ?_
      · by_cases t : a = u
        · rw [t, h1]; simp
        · rw [updO_ne t] at e
          cases y : limO O' a with
          | none => exact absurd y e
          | some o' => rw [limO_some y]; simp
      · rw [updO_ne fun t => ?_]
        · exact limO_obj e z
        · rw [t, h1] at e
          cases e
          rcases z with ⟨l, z⟩ | ⟨l, f, z⟩
          · exact h2 l z
          · exact h3 l f z
      · by_cases t : a = u
        · rw [t, updO_same] at e
          cases e
          exact .inr (.inr rfl)
        · rw [updO_ne t] at e
          exact (limO_mem O' a o' e).elim .inl fun z => .inr (.inl z)
/-- THE RULE for a def without defaults -/
theorem def_ok {x qual : Str} {st : Stmt} {f : Addr} {fd : FuncData} {N ps : List Str} {k : Nat} {ow ow' : List Nat} {ro : Bool} {ev : Sv} (F : Fun K x qual st f fd) (S : FnScope N ps (defScope st)) (ho : ∀ i ∈ ow, ps.length ≤ i) (hnx : ro = true → ∀ sd M sd' M', ev sd M ≠ .nx sd' M')
    (hb : ∀ (cdv : Value) (A : Around) (outer : List Env) (s : Shared) (H : Hp) (E : XK), Room k (A.deeper (envOfC qual (defScope st) s.heap.objs.size f cdv)) →
      PBv ofl (cxOf (L2.CX P w) P w K mg base N qual (defScope st) f cdv A outer s H E) (WB E) ow ow' ro (defBody st) ev) :
    FnOk P w K mg base (L2.CX P w) (k + 1) f fd ps (spv K mg ofl ro ps.length (fnv ps.length N.length ev)) :=
  F.okX S (fun vs H Q E h => h.1) fun cdv A outer s H vs Q E hr h => body_sp ho hnx (hb cdv A outer s H E hr) h
end

/-- a call -/
def eCall (f : List D → Mem → R D) (a : Av) : Ev := fun sd M => (a sd M).bind f
section
variable {ofl : Str → Str → Bool} {X : Cx} {W : WX} {ow : List Nat} {p : Bool} {es : List Expr} {e : Expr} {av : Av} {fe : List D → Mem → R D} {ro : Bool} {n : Nat}
/-- the caller's own things stand aside while a def is called -/
theorem call_imp {F G : Hp} {ι : List Addr} {O : Addr → Option Own} {σ : L2.St} {sd : Sd} {M : Mem} {H H0 : Hp} {Q : VK} {vs : List V} {ds : List D} (s : SR X.K X.mg ofl ow F G ι O σ sd M H) (hv : IsDs X.K X.mg G ι vs ds) (hl : vs.length = n)
    (h : EPo X.K X.mg ofl W ow false (if ro then .own else .dat) F G ι σ sd H0 Q (fe ds M)) : spv X.K X.mg ofl ro n fe vs H Q (WE W σ) := by
  -- the frame, and the slots' own things
  let F' : Hp := fun a => match O a with
    | some (.slot i) => H a
    | some .tmp => H a
    | _ => F a
  have w' : Wd X.K X.mg ofl F' G ι (limO O) M H := by
    refine ⟨s.wd.g, fun a o e => ?_, fun a e => ?_, fun a e => ?_, s.wd.len, s.wd.lim.at_⟩
    · have e' : (match O a with | some (.slot i) => H a | some .tmp => H a | _ => F a) = some o := e
      split at e'
      · exact e'
      · exact e'
      · exact s.wd.f a o e'
    · cases q : limO O a with
      | none => exact absurd q e
      | some o =>
        have q2 := limO_some q
        obtain ⟨h1, h2, h3⟩ := s.wd.og a (by rw [q2]; simp)
        refine ⟨h1, ?_, h3⟩
        show (match O a with | some (.slot i) => H a | some .tmp => H a | _ => F a) = none
        rw [q2]
        rcases limO_mem O a o q with ⟨l, rfl⟩ | ⟨l, f, rfl⟩ <;> exact h2
    · show (match O a with | some (.slot i) => H a | some .tmp => H a | _ => F a) = none
      have hO : O a = none := by
        cases q : O a with
        | none => rfl
        | some o => exact absurd (s.wd.og a (by rw [q]; simp)).1 e
      rw [hO]
      exact s.wd.gf a e
  -- behind it
  have back : ∀ {H' G' ι' O' M'}, Same G G' → Pre ι ι' → Wd X.K X.mg ofl F' G' ι' O' M' H' → (∀ a o, O' a = some o → (∃ l, o = .obj l) ∨ (∃ l f, o = .fld l f) ∨ o = .tmp) →
      ∃ O2, SR X.K X.mg ofl ow F G' ι' O2 σ sd M' H' ∧ ∀ a, O' a = some .tmp → O2 a = some .tmp := by
    intro H' G' ι' O' M' sg pr wd mo
    have dis : ∀ a i, O a = some (.slot i) → O' a = none ∧ G' a = none ∧ H' a = H a := fun a i e => by
      have h3 := (s.wd.og a (by rw [e]; simp)).2.2
      have eF : F' a = H a := by
        show (match O a with | some (.slot i) => H a | some .tmp => H a | _ => F a) = _
        rw [e]
      cases q : H a with
      | none => exact absurd q h3
      | some o =>
        rw [q] at eF
        refine ⟨?_, ?_, wd.f a o eF⟩
        · cases t : O' a with
          | none => rfl
          | some u =>
            have := (wd.og a (by rw [t]; simp)).2.1
            rw [eF] at this
            cases this
        · cases t : G' a with
          | none => rfl
          | some u =>
            have := wd.gf a (by rw [t]; simp)
            rw [eF] at this
            cases this
    let O2 : Addr → Option Own := fun a => match O a with
      | some (Own.slot i) => some (Own.slot i)
      | _ => O' a
    have o2s : ∀ a i, O a = some (.slot i) → O2 a = some (.slot i) := fun a i e => by
      show (match O a with | some (Own.slot i) => some (Own.slot i) | _ => O' a) = _
      rw [e]
    have o2o : ∀ a o, O' a = some o → O2 a = some o := fun a o e => by
      show (match O a with | some (Own.slot i) => some (Own.slot i) | _ => O' a) = _
      split
      · rename_i i q
        rw [(dis a i q).1] at e
        cases e
      · exact e
    refine ⟨O2, ⟨⟨wd.g, fun a o e => ?_, fun a e => ?_, fun a e => ?_, wd.len, fun l o e => ?_⟩, ?_⟩, fun a e => o2o a _ e⟩
    · refine wd.f a o ?_
      show (match O a with | some (.slot i) => H a | some .tmp => H a | _ => F a) = some o
      split
      · rename_i i q
        exact s.wd.f a o e
      · exact s.wd.f a o e
      · exact e
    · by_cases q : ∃ i, O a = some (.slot i)
      · obtain ⟨i, q⟩ := q
        obtain ⟨d1, d2, d3⟩ := dis a i q
        have := s.wd.og a (by rw [q]; simp)
        exact ⟨d2, this.2.1, by rw [d3]; exact this.2.2⟩
      · have q2 : O2 a = O' a := by
          show (match O a with | some (Own.slot i) => some (Own.slot i) | _ => O' a) = _
          split
          · rename_i i t
            exact absurd ⟨i, t⟩ q
          · rfl
        rw [q2] at e
        obtain ⟨d1, d2, d3⟩ := wd.og a e
        refine ⟨d1, ?_, d3⟩
        have d2' : (match O a with | some (.slot i) => H a | some .tmp => H a | _ => F a) = none := d2
        split at d2'
        · rename_i i t
          exact absurd ⟨i, t⟩ q
        · cases t : F a with
          | none => rfl
          | some u => rw [s.wd.f a u t] at d2'; cases d2'
        · exact d2'
    · have d2 := wd.gf a e
      have d2' : (match O a with | some (.slot i) => H a | some .tmp => H a | _ => F a) = none := d2
      cases t : F a with
      | none => rfl
      | some u =>
        have t2 := s.wd.f a u t
        split at d2'
        · rw [t2] at d2'; cases d2'
        · rw [t2] at d2'; cases d2'
        · rw [t] at d2'; cases d2'
    · obtain ⟨a, h1, h2, h3⟩ := wd.at_ l o e
      exact ⟨a, h1, o2o a _ h2, h3.mono (Same.refl G') (Pre.refl ι') rfl fun b f e2 => ⟨o2o b _ e2, rfl⟩⟩
    · refine ⟨s.sl.1, fun i d e => ?_⟩
      obtain ⟨v, h1, h2⟩ := s.sl.2 i d e
      refine ⟨v, h1, ?_⟩
      split at h2
      · rename_i hi
        rw [if_pos hi]
        obtain ⟨b, e1, e2, e3⟩ := h2
        exact ⟨b, e1, o2s b i e2, e3.mono sg pr (dis b i e2).2.2⟩
      · rename_i hi
        rw [if_neg hi]
        exact h2.mono sg pr
  refine ⟨hl, F', G, ι, limO O, M, ds, w', limO_mem O, hv, ?_⟩
  cases z : fe ds M with
  | bad => rw [z] at h; exact h
  | exc x M' =>
    rw [z] at h
    intro c da H' G' ι' O' sg pr wd mo ex
    obtain ⟨O2, s2, _⟩ := back sg pr wd fun a o e => (mo a o e).elim .inl fun z => .inr (.inl z)
    exact h c da H' G' ι' O2 sg pr s2 ex
  | ok d M' =>
    rw [z] at h
    intro v H' G' ι' O' sg pr wd hd mo
    obtain ⟨O2, s2, t2⟩ := back sg pr wd mo
    refine h v H' G' ι' O2 sg pr s2 ?_ fun z => by cases z
    cases ro with
    | false => exact hd
    | true =>
      obtain ⟨b, rfl, h1, h2⟩ := hd
      exact ⟨b, rfl, t2 b h1, h2⟩
/-- arguments, then the call -/
theorem imp_call {σ : L2.St} {H : Hp} {Q : VK} (hn : ∀ sd M ds M', av sd M = .ok ds M' → ds.length = n) (h : tev X.K X.mg ofl W ow false (if ro then .own else .dat) (eCall fe av) σ H Q) : tav X.K X.mg ofl W ow false av σ H fun vs H1 => spv X.K X.mg ofl ro n fe vs H1 Q (WE W σ) := by
  obtain ⟨F, G, ι, O, sd, M, s, h⟩ := h
  refine ⟨F, G, ι, O, sd, M, s, ?_⟩
  unfold eCall at h
  cases z : av sd M with
  | bad => rw [z] at h; exact h
  | exc x M' => rw [z] at h; exact h
  | ok ds M' =>
    rw [z] at h
    intro vs H1 G1 ι1 O1 sg1 pr1 s1 hv _
    exact call_imp (H0 := H) s1 hv (by rw [hv.length]; exact hn _ _ _ _ z) (EPo.up (H1 := H) h sg1 pr1 fun z => by cases z)
theorem aCons_len {a : Ev} {r : Av} {m : Nat} (h : ∀ sd M ds M', r sd M = .ok ds M' → ds.length = m) : ∀ sd M ds M', aCons a r sd M = .ok ds M' → ds.length = m + 1 := fun sd M ds M' e => by
  unfold aCons at e
  cases z : a sd M with
  | bad => rw [z] at e; cases e
  | exc x M1 => rw [z] at e; cases e
  | ok d M1 =>
    rw [z] at e
    dsimp only [R.bind_ok] at e
    cases z2 : r sd M1 with
    | bad => rw [z2] at e; cases e
    | exc x M2 => rw [z2] at e; cases e
    | ok es M2 =>
      rw [z2] at e
      cases e
      rw [List.length_cons, h _ _ _ _ z2]
theorem aNil_len : ∀ sd M ds M', aNil sd M = .ok ds M' → ds.length = 0 := fun sd M ds M' e => by cases e; rfl
theorem pev_callG {k : Nat} {f : Addr} {fd : FuncData} {ps : List Str} {x : Str} {pp pos : Pos} (Fn : FnOk X.prog X.w X.K X.mg X.base (L2.CX X.prog X.w) k f fd ps (spv X.K X.mg ofl ro n fe)) (hr : Room k X.A) (hg : Gl X x) (hm : X.mg x = some (.ref f)) (hk : PySem.W.keepIn X.K (.ref f) = true)
    (hb : Binds X.K fd ps []) (tk : Takes X W) (ha : PAv ofl X W ow false (e :: es) av) (hn : ∀ sd M ds M', av sd M = .ok ds M' → ds.length = n) (hdb : (x == ("__debug__" : Str)) = false := by decide)
    (he : starEach (e :: es) X.env = (false, eval e X.env) :: starEach es X.env := by rfl) (hpl : (backTo pos (starEach es X.env)).any (·.1) = false := by rfl) :
    PEv ofl X W ow false (if ro then .own else .dat) (.Call (.Name x pp) (e :: es) [] pos) (eCall fe av) :=
  ⟨PE.imp (pe_callS Fn hr hg hm hk hb (fun σ => passAt tk σ) ha.pa hdb he hpl) fun _ _ _ => imp_call hn⟩
end
end La

set_option Elab.async false
set_option linter.all false
set_option maxRecDepth 100000
/-! La11: slices, built-in calls, what changes a list or a dict. -/
namespace La
open PySem PySem.Spec L2

/-! ### slices -/
def cutD (ds : List D) (lo hi : Option Int) : List D := (ds.drop (HT.sIx ds.length 0 lo)).take (HT.sIx ds.length ds.length hi - HT.sIx ds.length 0 lo)
def dSl (lo hi : Option Int) : D → Option D
  | .lst ds => some (.lst (cutD ds lo hi))
  | .tup ds => some (.tup (cutD ds lo hi))
  | .str x => if x.length ≤ sizeLine then some (.str (cutS x lo hi)) else none
  | _ => none
abbrev Ov := Sd → Mem → R (Option Int)
def oNone : Ov := fun _ M => .ok none M
def oSome (a : Ev) : Ov := fun sd M => (a sd M).bind fun d M1 => match d with
  | .int i => .ok (some i) M1
  | _ => .bad
def eSl (a : Ev) (lo hi : Ov) : Ev := fun sd M => (a sd M).bind fun d M1 => (lo sd M1).bind fun l M2 => (hi sd M2).bind fun u M3 => R.ofO (dSl l u (drf M3 d)) M3
section
variable (K : PySem.W.Frag) (mg : Str → Option Value) (ofl : Str → Str → Bool) (W : WX)
def OPo (ow : List Nat) (p : Bool) (F G : Hp) (ι : List Addr) (σ : L2.St) (sd : Sd) (H : Hp) (Q : Option Int → Hp → Prop) : R (Option Int) → Prop
  | .bad => False
  | .ok b M' => ∀ H' G' ι' O', Same G G' → Pre ι ι' → SR K mg ofl ow F G' ι' O' σ sd M' H' → (p = true → Same H H') → Q b H'
  | .exc x M' => ∀ c da H' G' ι' O', Same G G' → Pre ι ι' → SR K mg ofl ow F G' ι' O' σ sd M' H' → ExR K mg G' ι' H' x c da → W c da σ H'
def tov (ow : List Nat) (p : Bool) (ev : Ov) : TO := fun σ H Q => ∃ F G ι O sd M, SR K mg ofl ow F G ι O σ sd M H ∧ OPo K mg ofl W ow p F G ι σ sd H Q (ev sd M)
end
structure POv (ofl : Str → Str → Bool) (X : Cx) (W : WX) (ow : List Nat) (p : Bool) (e : Option Expr) (ev : Ov) : Prop where
  po : PO X e (tov X.K X.mg ofl W ow p ev)
theorem PO.imp {X : Cx} {e : Option Expr} {t u : TO} (h : PO X e t) (i : ∀ σ H Q, u σ H Q → t σ H Q) : PO X e u := ⟨fun pins s σ H Q I q => h.run pins s σ H Q I (i σ H Q q)⟩
section
variable {ofl : Str → Str → Bool} {X : Cx} {W : WX} {ow : List Nat} {p : Bool} {k ka kb : Kd} {e a b : Expr} {ev eva evb : Ev} {lo hi : Option Expr} {ol oh : Ov} {pos p2 : Pos}
theorem pov_none : POv ofl X W ow p none oNone := by
  refine ⟨PO.imp po_none fun σ H Q q => ?_⟩
  obtain ⟨F, G, ι, O, sd, M, s, q⟩ := q
  exact q H G ι O (Same.refl G) (Pre.refl ι) s fun _ => Same.refl H
theorem pov_some (h : PEv ofl X W ow p ka e ev) : POv ofl X W ow p (some e) (oSome ev) := by
  refine ⟨PO.imp (po_some h.pe) fun σ H Q q => ?_⟩
  obtain ⟨F, G, ι, O, sd, M, s, q⟩ := q
  refine seq_e (P := fun H G ι r => OPo X.K X.mg ofl W ow p F G ι σ sd H Q r) s (fun _ _ _ h => h) (fun H G ι x M' z => z) q fun d M1 x H1 G1 ι1 O1 sg1 pr1 s1 k1 q1 h1 => ?_
  cases d with
  | int i =>
    obtain rfl := (k1.at s1).int
    exact ⟨i, rfl, h1 H1 G1 ι1 O1 sg1 pr1 s1 q1⟩
  | _ => exact h1.elim
theorem IsDs.cut {K : PySem.W.Frag} {mg : Str → Option Value} {G : Hp} {ι : List Addr} {vs : List V} {ds : List D} (h : IsDs K mg G ι vs ds) (lo hi : Option Int) : IsDs K mg G ι (cutV vs lo hi) (cutD ds lo hi) := by
  unfold cutV cutD
  rw [h.length]
  exact (h.drop _).take _
def r3Sl (K : PySem.W.Frag) : V → Option Int → Option Int → Hp → VK → Prop := fun x lo hi H Q => rSlL K x lo hi H Q ∨ (rSlA K x lo hi H Q ∨ rSlS x lo hi H Q)
theorem okSl {lo hi : Option Int} : UnOK ofl X (dSl lo hi) (fun x H Q => r3Sl X.K x lo hi H Q) := by
  intro F G ι O ow σ sd M H x d z Q s hx hf k
  cases d with
  | lst ds =>
    obtain ⟨a, vs, rfl, h1, h2⟩ := hx.lst s.wd.g
    cases hf
    refine .inl ⟨a, vs, rfl, .of h1, fun q hq => ?_⟩
    obtain ⟨s', sg, sm, e1⟩ := s.laidG (o := .lst (cutV vs lo hi)) hq
    exact k _ _ _ sg sm s' (.lst e1 ((h2.cut lo hi).mono sg (Pre.refl ι)))
  | tup ds =>
    obtain ⟨a, vs, rfl, h1, h2⟩ := hx.tup s.wd.g
    cases hf
    refine .inr (.inl ⟨a, vs, rfl, h1, fun w => ?_, fun w q hq => ?_⟩)
    · have e : cutD ds lo hi = ds := by
        unfold cutD
        rw [← h2.length, w.1, w.2]
        simp [h2.length]
      rw [e] at k
      exact k _ H G (Same.refl G) (Same.refl H) s (by
        rcases hx with h | ⟨_, _, h⟩
        · exact h
        · exact h.elim)
    · obtain ⟨s', sg, sm, e1⟩ := s.laidG (o := .tup (cutV vs lo hi)) hq
      exact k _ _ _ sg sm s' (.tup (.of e1) ((h2.cut lo hi).mono sg (Pre.refl ι)))
  | str w =>
    obtain rfl := hx.str
    obtain ⟨c, rfl⟩ := ite_some (c := w.length ≤ sizeLine) (a := D.str (cutS w lo hi)) hf
    exact .inr (.inr ⟨w, rfl, c, k _ H G (Same.refl G) (Same.refl H) s (.str _)⟩)
  | _ => cases hf
theorem pev_slice (ha : PEv ofl X W ow p ka e ev) (hl : POv ofl X W ow p lo ol) (hh : POv ofl X W ow p hi oh) (hk : okK ka p = true := by rfl) : PEv ofl X W ow p .dat (.Subscript e (.Slice lo hi none p2) pos) (eSl ev ol oh) := by
  refine ⟨PE.imp (pe_slice (sl_list.or (sl_tupA.or sl_str)) ha.pe hl.po hh.po) fun σ H Q q => ?_⟩
  obtain ⟨F, G, ι, O, sd, M, s, h⟩ := q
  refine seq_e (P := fun H G ι r => EPo X.K X.mg ofl W ow p .dat F G ι σ sd H Q r) s epo_bad (fun H G ι x M' z => z) h fun d M1 x H1 G1 ι1 O1 sg1 pr1 s1 k1 q1 h1 => ?_
  refine ⟨F, G1, ι1, O1, sd, M1, s1, ?_⟩
  have h1 := h1.up sg1 pr1 q1
  cases z : ol sd M1 with
  | bad => rw [z] at h1; exact h1
  | exc x M' => rw [z] at h1; exact h1
  | ok l M2 =>
    rw [z] at h1
    intro H2 G2 ι2 O2 sg2 pr2 s2 q2
    refine ⟨F, G2, ι2, O2, sd, M2, s2, ?_⟩
    have h2 := EPo.up h1 sg2 pr2 q2
    dsimp only [R.bind_ok] at h2
    cases z2 : oh sd M2 with
    | bad => rw [z2] at h2; exact h2
    | exc x M' => rw [z2] at h2; exact h2
    | ok u M3 =>
      rw [z2] at h2
      intro H3 G3 ι3 O3 sg3 pr3 s3 q3
      have h3 := EPo.up h2 sg3 pr3 q3
      dsimp only [R.bind_ok] at h3
      have k3 := (k1.stay (O' := O3) hk (sg2.trans sg3) (pr2.trans pr3) fun t => (q2 t).trans (q3 t)).at s3
      cases z3 : dSl l u (drf M3 d) with
      | none => rw [z3] at h3; exact h3.elim
      | some w =>
        rw [z3] at h3
        exact okSl F G3 ι3 O3 ow σ sd M3 H3 x _ w Q s3 (k3.drf s3.wd) z3 fun v H' G' sg sm s' hv => h3 v H' G' ι3 O3 sg (Pre.refl ι3) s' hv fun _ => sm

/-! ### isinstance -/
def dTy : D → Option String
  | .non => some "NoneType" | .bl _ => some "bool" | .int _ => some "int" | .str _ => some "str" | .tup _ => some "tuple" | .lst _ => some "list" | .dic _ => some "dict" | .dit _ => some "dict"
  | _ => none
def isiT (T : String) (f : String → Bool) (d : D) : Option D := (dTy d).map fun a => .bl (f a)
theorem dTy_of {K : PySem.W.Frag} {mg : Str → Option Value} {G : Hp} {ι : List Addr} {H : Hp} {x : V} {d : D} {a : String} (sg : Same G H) (h : At K mg G ι H x d) (e : dTy d = some a) : TyX K H x (.type a) := by
  cases d with
  | non => obtain rfl := h.non; cases e; exact .base .non
  | bl b => obtain rfl := h.bl; cases e; exact .base (.bl b)
  | int b => obtain rfl := h.int; cases e; exact .base (.int b)
  | str b => obtain rfl := h.str; cases e; exact .base (.str b)
  | tup ds =>
    obtain ⟨t, vs, rfl, h1, _⟩ := h.tup sg
    cases e
    rcases h1 with (h1 | ⟨o, h1⟩) | ⟨o, its, n, h1, h2, _⟩
    · exact .base (.tup h1)
    · exact .fTuple h1
    · exact .kTuple h1 h2
  | lst ds =>
    obtain ⟨t, vs, rfl, h1, _⟩ := h.lst sg
    cases e
    exact .base (.lst h1)
  | dic ds =>
    obtain ⟨t, vs, rfl, h1, _⟩ := h.dic sg
    cases e
    exact .base (.dK h1)
  | dit ds =>
    obtain ⟨t, vs, rfl, h1, _⟩ := h.dit sg
    cases e
    exact .base (.dT h1)
  | _ => cases e
theorem okIsi {T : String} {f : String → Bool} (hf : ∀ a ∈ ["NoneType", "bool", "int", "str", "tuple", "list", "dict"], kitB a T = some (f a)) : UnOK ofl X (isiT T f) (fun x H Q => rIsi X.K [x, .ty T] H Q) := by
  intro F G ι O ow σ sd M H x d z Q s hx hz k
  obtain ⟨a, e, rfl⟩ := Option.map_eq_some_iff.mp hz
  have ha : a ∈ ["NoneType", "bool", "int", "str", "tuple", "list", "dict"] := by
    cases d <;> cases e <;> simp
  exact ⟨x, .ty T, _, _, f a, rfl, .ty T, dTy_of s.wd.g hx e, kit_ty (hf a ha), k _ H G (Same.refl G) (Same.refl H) s (.bl _)⟩
def isiInt : D → Option D := isiT "int" fun a => a == "int" || a == "bool"
def isiBool : D → Option D := isiT "bool" fun a => a == "bool"
def isiList : D → Option D := isiT "list" fun a => a == "list"
def isiTup : D → Option D := isiT "tuple" fun a => a == "tuple"
def isiStr : D → Option D := isiT "str" fun a => a == "str"
theorem okIsiInt : UnOK ofl X isiInt (fun x H Q => rIsi X.K [x, .ty "int"] H Q) := okIsi (by decide +kernel)
theorem okIsiBool : UnOK ofl X isiBool (fun x H Q => rIsi X.K [x, .ty "bool"] H Q) := okIsi (by decide +kernel)
theorem okIsiList : UnOK ofl X isiList (fun x H Q => rIsi X.K [x, .ty "list"] H Q) := okIsi (by decide +kernel)
theorem okIsiTup : UnOK ofl X isiTup (fun x H Q => rIsi X.K [x, .ty "tuple"] H Q) := okIsi (by decide +kernel)
theorem okIsiStr : UnOK ofl X isiStr (fun x H Q => rIsi X.K [x, .ty "str"] H Q) := okIsi (by decide +kernel)
theorem pev_isi {f : D → Option D} {T : String} {x y : Str} {pp py pos : Pos} (ok : UnOK ofl X f (fun x H Q => rIsi X.K [x, .ty T] H Q)) (hg : Gl X x) (hm : X.mg x = none) (hv : bootBuiltins x = some (.builtin "isinstance")) (hg2 : Gl X y) (hm2 : X.mg y = none) (hv2 : bootBuiltins y = some (.type T))
    (ha : PEv ofl X W ow p ka e ev) (hn : x ≠ "__name__" := by decide) (hd : (x == ("__debug__" : Str)) = false := by decide) (hn2 : y ≠ "__name__" := by decide) (hd2 : (y == ("__debug__" : Str)) = false := by decide)
    (hs : starEach [e, .Name y py] X.env = (false, eval e X.env) :: starEach [.Name y py] X.env := by rfl) (hs2 : starEach [.Name y py] X.env = (false, eval (.Name y py) X.env) :: starEach [] X.env := by rfl)
    (hcall : ∀ t, PA X (e :: [.Name y py]) t → PE X (.Call (.Name x pp) (e :: [.Name y py]) [] pos) (tCB (rIsi X.K) t)) : PEv ofl X W ow p .dat (.Call (.Name x pp) [e, .Name y py] [] pos) (eUn f ev) :=
  pev_un ok (fun ta h => hcall _ (pa_cons h (pa_cons (pe_bltn (v := .ty T) hg2 hm2 hv2 rfl hn2 hd2) pa_nil hs2) hs)) ha

/-! ### built-in calls -/
def dTup : D → Option D
  | .lst ds => some (.tup ds)
  | .tup ds => some (.tup ds)
  | _ => none
def rTupOf (K : PySem.W.Frag) : V → Hp → VK → Prop := fun x H Q => ∃ p ys, x = .ref p ∧ ((SqL K H p ys ∧ ∀ l, H l = none → Q (.ref l) (upd H l (.tup ys))) ∨ (SqT K H p ys ∧ Q (.ref p) H))
theorem okTup : UnOK ofl X dTup (rTupOf X.K) := by
  intro F G ι O ow σ sd M H x d z Q s hx hf k
  cases d with
  | lst ds =>
    obtain ⟨a, vs, rfl, h1, h2⟩ := hx.lst s.wd.g
    cases hf
    refine ⟨a, vs, rfl, .inl ⟨.of h1, fun l hl => ?_⟩⟩
    obtain ⟨s', sg, sm, e1⟩ := s.laidG (o := .tup vs) hl
    exact k _ _ _ sg sm s' (.tup (.of e1) (h2.mono sg (Pre.refl ι)))
  | tup ds =>
    obtain ⟨a, vs, rfl, h1, h2⟩ := hx.tup s.wd.g
    cases hf
    exact ⟨a, vs, rfl, .inr ⟨h1, k _ H G (Same.refl G) (Same.refl H) s (by
      rcases hx with h | ⟨_, _, h⟩
      · exact h
      · exact h.elim)⟩⟩
  | _ => cases hf
def dMin : D → D → Option D
  | .int i, .int j => some (.int (if j < i then j else i))
  | _, _ => none
def dMax : D → D → Option D
  | .int i, .int j => some (.int (if j > i then j else i))
  | _, _ => none
theorem okMin : BinOK ofl X dMin (fun x y H Q => ∃ i j, x = .int i ∧ y = .int j ∧ Q (.int (if j < i then j else i)) H) := (ok_int0 (g := fun i j => .int (if j < i then j else i)) fun _ _ _ _ _ _ => .int _).congr fun a b => by cases a <;> cases b <;> rfl
theorem okMax : BinOK ofl X dMax (fun x y H Q => ∃ i j, x = .int i ∧ y = .int j ∧ Q (.int (if j > i then j else i)) H) := (ok_int0 (g := fun i j => .int (if j > i then j else i)) fun _ _ _ _ _ _ => .int _).congr fun a b => by cases a <;> cases b <;> rfl
/-- all(a list of truths) -/
def blsOf : List D → Option (List Bool)
  | [] => some []
  | .bl b :: ds => (blsOf ds).map fun bs => b :: bs
  | _ => none
def dAll : D → Option D
  | .lst ds => (blsOf ds).map fun bs => .bl (bs.all id)
  | _ => none
def dAny : D → Option D
  | .lst ds => (blsOf ds).map fun bs => .bl (bs.any id)
  | _ => none
theorem blsOf_of {K : PySem.W.Frag} {mg : Str → Option Value} {G : Hp} {ι : List Addr} : ∀ {ds : List D} {vs : List V} {bs : List Bool}, IsDs K mg G ι vs ds → blsOf ds = some bs → vs = bs.map V.bl
  | [], _, _, h, e => by cases h; cases e; rfl
  | d :: ds, _, bs, h, e => by
    cases h with
    | cons a b =>
      cases d with
      | bl k =>
        obtain ⟨bs', e1, rfl⟩ := Option.map_eq_some_iff.mp (show (blsOf ds).map (fun bs => k :: bs) = some bs from e)
        cases a
        rw [blsOf_of b e1]
        rfl
      | _ => cases e
theorem okAll : UnOK ofl X dAll (fun x H Q => rAll X.K [x] H Q) := by
  intro F G ι O ow σ sd M H x d z Q s hx hf k
  cases d with
  | lst ds =>
    obtain ⟨a, vs, rfl, h1, h2⟩ := hx.lst s.wd.g
    obtain ⟨bs, e1, rfl⟩ := Option.map_eq_some_iff.mp (show (blsOf ds).map (fun bs => D.bl (bs.all id)) = some z from hf)
    obtain rfl := blsOf_of h2 e1
    exact ⟨a, bs, rfl, .of h1, k _ H G (Same.refl G) (Same.refl H) s (.bl _)⟩
  | _ => cases hf
theorem okAny : UnOK ofl X dAny (fun x H Q => rAny X.K [x] H Q) := by
  intro F G ι O ow σ sd M H x d z Q s hx hf k
  cases d with
  | lst ds =>
    obtain ⟨a, vs, rfl, h1, h2⟩ := hx.lst s.wd.g
    obtain ⟨bs, e1, rfl⟩ := Option.map_eq_some_iff.mp (show (blsOf ds).map (fun bs => D.bl (bs.any id)) = some z from hf)
    obtain rfl := blsOf_of h2 e1
    exact ⟨a, bs, rfl, .of h1, k _ H G (Same.refl G) (Same.refl H) s (.bl _)⟩
  | _ => cases hf
/-- list(x): a new list of one's own -/
def dList : D → Option D
  | .lst ds => some (.lst ds)
  | .tup ds => some (.lst ds)
  | _ => none
def rListOf (K : PySem.W.Frag) : V → Hp → VK → Prop := fun x H Q => ∃ p ys, x = .ref p ∧ (SqL K H p ys ∨ SqT K H p ys) ∧ ∀ l, H l = none → Q (.ref l) (upd H l (.lst ys))
theorem pev_listO (h : ∀ ta, PE X a ta → PE X e (fun σ H Q => ta σ H fun x H1 => rListOf X.K x H1 Q)) (ha : PEv ofl X W ow p ka a ev) : PEv ofl X W ow p .own e (eUn dList ev) := by
  refine ⟨PE.imp (h _ ha.pe) fun σ H Q q => ?_⟩
  obtain ⟨F, G, ι, O, sd, M, s, h⟩ := q
  refine seq_e (P := fun H G ι r => EPo X.K X.mg ofl W ow p .own F G ι σ sd H Q r) s epo_bad (fun H G ι x M' z => z) h fun d M1 x H1 G1 ι1 O1 sg1 pr1 s1 k1 q1 h1 => ?_
  have hx := (k1.at s1).drf s1.wd
  cases q : drf M1 d with
  | lst ds =>
    rw [q] at h1 hx
    obtain ⟨t, vs, rfl, e1, e2⟩ := hx.lst s1.wd.g
    refine ⟨t, vs, rfl, .inl (.of e1), fun l hl => ?_⟩
    obtain ⟨s2, sm2⟩ := s1.laidT (o := .lst vs) hl
    exact h1 _ _ _ ι1 _ sg1 pr1 s2 ⟨l, rfl, updO_same, vs, upd_same, e2⟩ fun t => (q1 t).trans sm2
  | tup ds =>
    rw [q] at h1 hx
    obtain ⟨t, vs, rfl, e1, e2⟩ := hx.tup s1.wd.g
    refine ⟨t, vs, rfl, .inr e1, fun l hl => ?_⟩
    obtain ⟨s2, sm2⟩ := s1.laidT (o := .lst vs) hl
    exact h1 _ _ _ ι1 _ sg1 pr1 s2 ⟨l, rfl, updO_same, vs, upd_same, e2⟩ fun t => (q1 t).trans sm2
  | _ => rw [q] at h1; exact h1.elim
end
end La

set_option Elab.async false
set_option linter.all false
set_option maxRecDepth 100000
/-! La12: what changes a list or a dict: a name's own, one in the memory, a field. -/
namespace La
open PySem PySem.Spec L2

section
variable (ofl : Str → Str → Bool) (X : Cx)
/-- a method that changes the thing at b, its arguments data -/
def MutOK (f : Mem → D → List D → Option D) (r : V → List V → Hp → VK → Prop) : Prop := ∀ (F G : Hp) (ι : List Addr) (O : Addr → Option Own) (ow : List Nat) (σ : L2.St) (sd : Sd) (M : Mem) (H : Hp) (b : Addr) (d d' : D) (vs : List V) (ds : List D) (Q : VK),
  SR X.K X.mg ofl ow F G ι O σ sd M H → Cn X.K X.mg G ι H b d → IsDs X.K X.mg G ι vs ds → f M d ds = some d' → (∀ o, Cn X.K X.mg G ι (upd H b o) b d' → Q .non (upd H b o)) → r (.ref b) vs H Q
end
def mApp : Mem → D → List D → Option D := fun _ d ds => match d, ds with
  | .lst xs, [x] => if xs.length ≤ 1000000 then some (.lst (xs ++ [x])) else none
  | _, _ => none
def mExt : Mem → D → List D → Option D := fun M d ds => match d, ds with
  | .lst xs, [x] => (match drf M x with
    | .lst ys => if xs.length + ys.length ≤ 1000000 then some (.lst (xs ++ ys)) else none
    | _ => none)
  | _, _ => none
def mRev : Mem → D → List D → Option D := fun _ d ds => match d, ds with
  | .lst xs, [] => some (.lst xs.reverse)
  | _, _ => none
def mIns : Mem → D → List D → Option D := fun _ d ds => match d, ds with
  | .lst xs, [.int i, x] => if xs.length ≤ 1000000 ∧ 0 ≤ i ∧ i ≤ 1000000 then some (.lst (xs.take i.toNat ++ [x] ++ xs.drop i.toNat)) else none
  | _, _ => none
section
variable {ofl : Str → Str → Bool} {X : Cx}
theorem okApp : MutOK ofl X mApp rAppend := by
  intro F G ι O ow σ sd M H b d d' vs ds Q s c hv hf k
  cases d with
  | lst xs =>
    cases hv with
    | nil => cases hf
    | cons h1 h2 =>
      cases h2 with
      | nil =>
        obtain ⟨us, e1, e2⟩ := c
        obtain ⟨c1, rfl⟩ := ite_some (c := xs.length ≤ 1000000) (a := D.lst _) hf
        have hz : sizeLine = 16777216 := PySem.sizeLine_eq
        exact ⟨b, us, _, rfl, rfl, e1, by rw [e2.length]; omega, k _ ⟨_, upd_same, e2.append (.cons h1 .nil)⟩⟩
      | cons a b => cases hf
  | _ => cases ds <;> cases hf
theorem okExt : MutOK ofl X mExt rExtend := by
  intro F G ι O ow σ sd M H b d d' vs ds Q s c hv hf k
  cases d with
  | lst xs =>
    cases hv with
    | nil => cases hf
    | @cons v0 x vs0 ds0 h1 h2 =>
      cases h2 with
      | nil =>
        obtain ⟨us, e1, e2⟩ := c
        have hx := At.drf s.wd (show At X.K X.mg G ι H v0 x from .inl h1)
        have hf' : (match La.drf M x with
          | .lst ys => if xs.length + ys.length ≤ 1000000 then some (D.lst (xs ++ ys)) else none
          | _ => none) = some d' := hf
        cases q : La.drf M x with
        | lst ys =>
          rw [q] at hf' hx
          obtain ⟨c1, rfl⟩ := ite_some hf'
          obtain ⟨t, ws, rfl, g1, g2⟩ := hx.lst s.wd.g
          have hz : sizeLine = 16777216 := PySem.sizeLine_eq
          exact ⟨b, t, us, ws, rfl, rfl, e1, g1, by rw [e2.length, g2.length]; omega, k _ ⟨_, upd_same, e2.append g2⟩⟩
        | _ => rw [q] at hf'; cases hf'
      | cons a b => cases hf
  | _ => cases ds <;> cases hf
theorem okRev : MutOK ofl X mRev rReverse := by
  intro F G ι O ow σ sd M H b d d' vs ds Q s c hv hf k
  cases d with
  | lst xs =>
    cases hv with
    | nil =>
      obtain ⟨us, e1, e2⟩ := c
      cases hf
      exact ⟨b, us, rfl, rfl, e1, k _ ⟨_, upd_same, e2.reverse⟩⟩
    | cons a b => cases hf
  | _ => cases ds <;> cases hf

/-! ### where the changed thing stands -/
variable {W : WX} {ow : List Nat} {ro : Bool} {p : Bool} {k : Kd} {st : Stmt} {es : List Expr} {av : Av} {o e : Expr} {ev : Ev}
def D.isLst : D → Bool
  | .lst _ => true
  | _ => false
def D.isDic : D → Bool
  | .dic _ => true
  | .dit _ => true
  | _ => false
theorem ty_lst {K : PySem.W.Frag} {mg : Str → Option Value} {G H : Hp} {ι : List Addr} {b : Addr} {d : D} (c : Cn K mg G ι H b d) (h : d.isLst = true) : tyV K "list" (.ref b) H := by
  cases d with
  | lst ds => obtain ⟨vs, e, _⟩ := c; exact .inl ⟨rfl, vs, .of e⟩
  | _ => cases h
theorem ty_dic {K : PySem.W.Frag} {mg : Str → Option Value} {G H : Hp} {ι : List Addr} {b : Addr} {d : D} (c : Cn K mg G ι H b d) (h : d.isDic = true) : tyV K "dict" (.ref b) H := by
  cases d with
  | dic ds => obtain ⟨vs, e, _⟩ := c; exact .inr (.inr (.inl ⟨rfl, .inl ⟨_, e⟩⟩))
  | dit ds => obtain ⟨vs, e, _⟩ := c; exact .inr (.inr (.inl ⟨rfl, .inr ⟨_, e⟩⟩))
  | _ => cases h
def sMutS (isT : D → Bool) (f : Mem → D → List D → Option D) (i : Nat) (a : Av) : Sv := fun sd M => match sget sd i with
  | none => .bad
  | some d => if isT d = true then (a sd M).toF sd fun ds M1 => (match f M1 d ds with
    | some d' => .nx (sd.set i (some d')) M1
    | none => .bad) else .bad
/-- one list of arguments in a statement, then what goes on -/
theorem seq_as {F G : Hp} {ι : List Addr} {O : Addr → Option Own} {σ : L2.St} {sd : Sd} {M : Mem} {H : Hp} {E : Ends} {g : List D → Mem → La.F} {Q : List V → Hp → Prop} {ow' : List Nat} (s : SR X.K X.mg ofl ow F G ι O σ sd M H)
    (h : SPo X.K X.mg ofl W ow ow' ro F G ι E ((av sd M).toF sd g))
    (n : ∀ ds M' vs H' G' ι' O', Same G G' → Pre ι ι' → SR X.K X.mg ofl ow F G' ι' O' σ sd M' H' → IsDs X.K X.mg G' ι' vs ds → (p = true → Same H H') → SPo X.K X.mg ofl W ow ow' ro F G ι E (g ds M') → Q vs H') : tav X.K X.mg ofl W ow p av σ H Q := by
  refine ⟨F, G, ι, O, sd, M, s, ?_⟩
  cases e : av sd M with
  | bad => rw [e] at h; exact h
  | exc x M' => rw [e] at h; exact fun c da H' G' ι' O' a b s' q => h c da σ H' G' ι' O' a b s' q
  | ok ds M' => rw [e] at h; exact fun vs H' G' ι' O' a b s' hv q => n ds M' vs H' G' ι' O' a b s' hv q h
theorem sget_some {sd : Sd} {i : Nat} {d : D} (h : sget sd i = some d) : sd[i]? = some (some d) := by
  unfold sget at h
  split at h
  · rename_i o e
    rw [e, h]
  · cases h
/-- x.m(..), x a name with a list or dict of its own -/
theorem psv_mutS {isT : D → Bool} {f : Mem → D → List D → Option D} {r : V → List V → Hp → VK → Prop} {i : Nat} {T : String} (ok : MutOK ofl X f r)
    (hT : ∀ (G H : Hp) (ι : List Addr) (b : Addr) (d : D), Cn X.K X.mg G ι H b d → isT d = true → tyV X.K T (.ref b) H)
    (h : ∀ t, PA X es t → PS X st (tDrop (tBM X.K T r (tVar i) t))) (ha : PAv ofl X W ow p es av) (hi : ow.contains i = true) : PSv ofl X W ow ow ro st (sMutS isT f i av) := by
  refine ⟨PS.imp (h _ ha.pa) fun E σ H q => ?_⟩
  obtain ⟨F, G, ι, O, sd, M, s, q⟩ := q
  have hi' : i ∈ ow := by simpa using hi
  unfold sMutS at q
  cases z : sget sd i with
  | none => rw [z] at q; exact q.elim
  | some d =>
    rw [z] at q
    dsimp only at q
    by_cases c : isT d = true
    · rw [if_pos c] at q
      have hd := sget_some z
      obtain ⟨v, e1, e2⟩ := s.sl.2 i d hd
      rw [if_pos hi'] at e2
      obtain ⟨b, rfl, e3, e4⟩ := e2
      refine ⟨.ref b, e1, hT G H ι b d e4 c, seq_as s q fun ds M1 vs H1 G1 ι1 O1 sg1 pr1 s1 hv _ q1 => ?_⟩
      obtain ⟨b1, g1, g2, g3, g4⟩ := s1.wslot hi' hd
      rw [e1] at g1
      cases g1
      cases z3 : f M1 d ds with
      | none => rw [z3] at q1; exact q1.elim
      | some d' =>
        rw [z3] at q1
        exact ok F G1 ι1 O1 ow σ sd M1 H1 b d d' vs ds _ s1 g2 hv z3 fun o c => q1 σ _ G1 ι1 O1 sg1 pr1 (g4 o d' c)
    · rw [if_neg c] at q
      exact q.elim

/-! ### one in the memory -/
def D.mo : D → Option MO
  | .lst ds => some (.lst ds)
  | .dic ds => some (.dic ds)
  | .dit ds => some (.dit ds)
  | _ => none
theorem SR.wmem {K : PySem.W.Frag} {mg : Str → Option Value} {F G : Hp} {ι : List Addr} {O : Addr → Option Own} {σ : L2.St} {sd : Sd} {M : Mem} {H : Hp} (s : SR K mg ofl ow F G ι O σ sd M H) {l : Nat} {d : D} {m : MO} (hm : d.mo = some m) (hl : M[l]? = some m) :
    ∃ b, ι[l]? = some b ∧ Cn K mg G ι H b d ∧ ∀ (o : HO) (d' : D) (m' : MO), d'.mo = some m' → Cn K mg G ι (upd H b o) b d' → SR K mg ofl ow F G ι O σ sd (M.set l m') (upd H b o) := by
  obtain ⟨b, h1, h2, h3⟩ := s.wd.at_ l m hl
  obtain ⟨g1, g2, g3⟩ := s.wd.og b (by rw [h2]; simp)
  have hc : Cn K mg G ι H b d := by
    cases d <;> cases hm <;> exact h3
  refine ⟨b, h1, hc, fun o d' m' hm' c => ⟨⟨Same.put s.wd.g g1, Same.put s.wd.f g2, fun a e => ?_, s.wd.gf, by rw [List.length_set]; exact s.wd.len, fun j u e => ?_⟩, s.sl.mono (Same.refl G) (Pre.refl ι) fun a i _ e => ⟨e, upd_ne fun z => by rw [z, h2] at e; cases e⟩⟩⟩
  · obtain ⟨e1, e2, e3⟩ := s.wd.og a e
    refine ⟨e1, e2, ?_⟩
    by_cases q : a = b
    · rw [q, upd_same]; simp
    · rw [upd_ne q]; exact e3
  · by_cases q : l = j
    · subst q
      have hlt : l < M.length := (List.getElem?_eq_some_iff.mp hl).1
      rw [List.getElem?_set_self hlt] at e
      cases e
      exact ⟨b, h1, h2, by cases d' <;> cases hm' <;> exact c⟩
    · rw [List.getElem?_set_ne q] at e
      obtain ⟨a, f1, f2, f3⟩ := s.wd.at_ j u e
      exact ⟨a, f1, f2, f3.mono (Same.refl G) (Pre.refl ι) (upd_ne fun z => by rw [z, h2] at f2; cases f2; exact q rfl) fun b' f e' => ⟨e', upd_ne fun z => by rw [z, h2] at e'; cases e'⟩⟩
def moD : MO → Option D
  | .lst ds => some (.lst ds)
  | .dic ds => some (.dic ds)
  | .dit ds => some (.dit ds)
  | .ins _ _ => none
theorem moD_mo {m : MO} {d : D} (h : moD m = some d) : d.mo = some m := by
  cases m <;> cases h <;> rfl
def memD (M : Mem) (d : D) : Option (Nat × D) := match d with
  | .obj l => match M[l]? with
    | some m => (moD m).map fun d => (l, d)
    | none => none
  | _ => none
theorem memD_some {M : Mem} {d d1 : D} {l : Nat} (h : memD M d = some (l, d1)) : d = .obj l ∧ ∃ m, M[l]? = some m ∧ moD m = some d1 := by
  cases d with
  | obj j =>
    unfold memD at h
    dsimp only at h
    cases z : M[j]? with
    | none => rw [z] at h; cases h
    | some m =>
      rw [z] at h
      obtain ⟨d2, e1, e2⟩ := Option.map_eq_some_iff.mp h
      cases e2
      exact ⟨rfl, m, z, e1⟩
  | _ => cases h
/-- x.m(..), x a list or dict in the memory -/
def sMutM (isT : D → Bool) (f : Mem → D → List D → Option D) (x : Ev) (a : Av) : Sv := fun sd M => (x sd M).toF sd fun d0 M0 => match memD M0 d0 with
  | none => .bad
  | some (_, d1) => if isT d1 = true then (a sd M0).toF sd fun ds M1 => (match memD M1 d0 with
    | some (l, d) => (match (f M1 d ds).bind D.mo with
      | some m => .nx sd (M1.set l m)
      | none => .bad)
    | none => .bad) else .bad
theorem psv_mutM {isT : D → Bool} {f : Mem → D → List D → Option D} {r : V → List V → Hp → VK → Prop} {T : String} (ok : MutOK ofl X f r)
    (hT : ∀ (G H : Hp) (ι : List Addr) (b : Addr) (d : D), Cn X.K X.mg G ι H b d → isT d = true → tyV X.K T (.ref b) H)
    (h : ∀ to t, PE X o to → PA X es t → PS X st (tDrop (tBM X.K T r to t))) (ho : PEv ofl X W ow p .dat o ev) (ha : PAv ofl X W ow p es av) : PSv ofl X W ow ow ro st (sMutM isT f ev av) := by
  refine ⟨PS.imp (h _ _ ho.pe ha.pa) fun E σ H q => ?_⟩
  obtain ⟨F, G, ι, O, sd, M, s, q⟩ := q
  refine seq_s s q fun d0 M0 v H0 G0 ι0 O0 sg0 pr0 s0 k0 q0 => ?_
  cases z : memD M0 d0 with
  | none => rw [z] at q0; exact q0.elim
  | some ld =>
    obtain ⟨l, d1⟩ := ld
    rw [z] at q0
    dsimp only at q0
    obtain ⟨rfl, m, hm, hd⟩ := memD_some z
    by_cases c : isT d1 = true
    · rw [if_pos c] at q0
      obtain ⟨b, h1, h2, _⟩ := s0.wmem (moD_mo hd) hm
      cases k0 with
      | obj ha =>
        rw [h1] at ha
        cases ha
        refine ⟨hT _ _ _ _ _ h2 c, seq_as s0 (q0.up sg0 pr0) fun ds M1 vs H1 G1 ι1 O1 sg1 pr1 s1 hv _ q1 => ?_⟩
        cases z2 : memD M1 (.obj l) with
        | none => rw [z2] at q1; exact q1.elim
        | some ld =>
          obtain ⟨l', d⟩ := ld
          rw [z2] at q1
          dsimp only at q1
          obtain ⟨el, m2, hm2, hd2⟩ := memD_some z2
          cases el
          obtain ⟨b1, g1, g2, g3⟩ := s1.wmem (moD_mo hd2) hm2
          have hb := pr1 _ _ h1
          rw [g1] at hb
          cases hb
          cases z3 : (f M1 d ds).bind D.mo with
          | none => rw [z3] at q1; exact q1.elim
          | some m' =>
            rw [z3] at q1
            obtain ⟨d', e1, e2⟩ := Option.bind_eq_some_iff.mp z3
            exact ok F G1 ι1 O1 ow σ sd M1 H1 b d d' vs ds _ s1 g2 hv e1 fun o c => q1 σ _ G1 ι1 O1 sg1 pr1 (g3 o d' m' e2 c)
    · rw [if_neg c] at q0
      exact q0.elim

/-! ### x[i] = e -/
/-- a store into the thing at b -/
def PutOK (ofl : Str → Str → Bool) (X : Cx) (f : D → D → D → Option D) (r : V → V → V → Hp → (Hp → Prop) → Prop) : Prop := ∀ (F G : Hp) (ι : List Addr) (O : Addr → Option Own) (ow : List Nat) (σ : L2.St) (sd : Sd) (M : Mem) (H : Hp) (b : Addr) (d i x d' : D) (iv xv : V) (Q : Hp → Prop),
  SR X.K X.mg ofl ow F G ι O σ sd M H → Cn X.K X.mg G ι H b d → IsD X.K X.mg G ι iv i → IsD X.K X.mg G ι xv x → f d i x = some d' → (∀ o, Cn X.K X.mg G ι (upd H b o) b d' → Q (upd H b o)) → r (.ref b) iv xv H Q
def pLst : D → D → D → Option D := fun d i x => match d, i with
  | .lst ds, .int k => (ixN ds.length k).map fun j => .lst (ds.set j x)
  | _, _ => none
theorem okPutL : PutOK ofl X pLst rSetL := by
  intro F G ι O ow σ sd M H b d i x d' iv xv Q s c hi hx hf k
  cases d with
  | lst ds =>
    cases i with
    | int n =>
      cases hi
      obtain ⟨j, e1, rfl⟩ := Option.map_eq_some_iff.mp (show (ixN ds.length n).map (fun j => D.lst (ds.set j x)) = some d' from hf)
      obtain ⟨us, e2, e3⟩ := c
      exact ⟨b, us, n, j, rfl, rfl, e2, by rw [e3.length]; exact e1, k _ ⟨_, upd_same, e3.set hx j⟩⟩
    | _ => cases hf
  | _ => cases hf
/-- d[k] = e -/
def putD {κ : Type} [DecidableEq κ] (kvs : List (κ × D)) (k : κ) (v : D) : List (κ × D) := if (kvs.any fun kv => decide (kv.1 = k)) = true then kvs.map (fun kv => if kv.1 = k then (kv.1, v) else kv) else kvs ++ [(k, v)]
def dval {κ : Type} [DecidableEq κ] (kvs : List (κ × D)) (k : κ) : Option D := (kvs.find? fun kv => decide (kv.1 = k)).map (·.2)
def dKey : D → Option Key
  | .int i => some (.inl i)
  | .str x => some (.inr x)
  | _ => none
theorem dKey_of {K : PySem.W.Frag} {mg : Str → Option Value} {G : Hp} {ι : List Addr} {v : V} {d : D} {k : Key} (h : IsD K mg G ι v d) (e : dKey d = some k) : v = kV k := by
  cases d with
  | int i => cases h; cases e; rfl
  | str i => cases h; cases e; rfl
  | _ => cases e
section
variable {K : PySem.W.Frag} {mg : Str → Option Value} {G : Hp} {ι : List Addr}
theorem IsKs.any (k : Key) : ∀ {vs : List (Key × V)} {ds : List (Key × D)}, IsKs K mg G ι vs ds → (vs.any fun kv => decide (kv.1 = k)) = ds.any fun kv => decide (kv.1 = k)
  | _, _, .nil => rfl
  | _, _, .cons _ t => by rw [List.any_cons, List.any_cons, IsKs.any k t]
theorem IsKs.append : ∀ {vs ws : List (Key × V)} {ds es : List (Key × D)}, IsKs K mg G ι vs ds → IsKs K mg G ι ws es → IsKs K mg G ι (vs ++ ws) (ds ++ es)
  | _, _, _, _, .nil, s => s
  | _, _, _, _, .cons r t, s => .cons r (IsKs.append t s)
theorem IsKs.repl (k : Key) {v : V} {d : D} (h : IsD K mg G ι v d) : ∀ {vs : List (Key × V)} {ds : List (Key × D)}, IsKs K mg G ι vs ds → IsKs K mg G ι (vs.map fun kv => if kv.1 = k then (kv.1, v) else kv) (ds.map fun kv => if kv.1 = k then (kv.1, d) else kv)
  | _, _, .nil => .nil
  | _, _, .cons (k := j) r t => by
    rw [List.map_cons, List.map_cons]
    by_cases q : j = k
    · rw [if_pos q, if_pos q]
      exact .cons h (IsKs.repl k h t)
    · rw [if_neg q, if_neg q]
      exact .cons r (IsKs.repl k h t)
theorem IsKs.put (k : Key) {v : V} {d : D} (h : IsD K mg G ι v d) {vs : List (Key × V)} {ds : List (Key × D)} (t : IsKs K mg G ι vs ds) : IsKs K mg G ι (putK vs k v) (putD ds k d) := by
  unfold putK putD
  rw [t.any k]
  split
  · exact t.repl k h
  · exact t.append (.cons h .nil)
theorem IsKs.val (k : Key) : ∀ {vs : List (Key × V)} {ds : List (Key × D)}, IsKs K mg G ι vs ds → (valV vs k = none ∧ dval ds k = none) ∨ ∃ v d, valV vs k = some v ∧ dval ds k = some d ∧ IsD K mg G ι v d
  | _, _, .nil => .inl ⟨rfl, rfl⟩
  | _, _, .cons (k := j) (v := v) (d := d) (vs := vs) (ds := ds) r t => by
    by_cases q : j = k
    · refine .inr ⟨v, d, ?_, ?_, r⟩
      · exact valV_pos (p := (j, v)) q
      · unfold dval
        rw [List.find?_cons_of_pos (by simpa using q)]
        rfl
    · have e1 : valV ((j, v) :: vs) k = valV vs k := valV_neg q
      have e2 : dval ((j, d) :: ds) k = dval ds k := by
        unfold dval
        rw [List.find?_cons_of_neg (by simpa using q)]
      rw [e1, e2]
      exact IsKs.val k t
end
def pDic : D → D → D → Option D := fun d i x => match d with
  | .dic ks => if ks.length ≤ 1000000 then (dKey i).map fun k => .dic (putD ks k x) else none
  | _ => none
def rDPut : V → V → V → Hp → (Hp → Prop) → Prop := fun o i x H Q => ∃ a H', o = .ref a ∧ DPut H a i x H' ∧ Q H'
theorem okPutD : PutOK ofl X pDic rDPut := by
  intro F G ι O ow σ sd M H b d i x d' iv xv Q s c hi hx hf k
  cases d with
  | dic ks =>
    obtain ⟨c1, h1⟩ := okIx.ite_some' (c := ks.length ≤ 1000000) (a := (dKey i).map fun k => D.dic (putD ks k x)) hf
    obtain ⟨j, e1, rfl⟩ := Option.map_eq_some_iff.mp h1
    obtain ⟨us, e2, e3⟩ := c
    obtain rfl := dKey_of hi e1
    have hz : sizeLine = 16777216 := PySem.sizeLine_eq
    exact ⟨b, _, rfl, DPut.k e2 (by rw [e3.length]; omega), k _ ⟨_, upd_same, e3.put j hx⟩⟩
  | _ => cases hf
/-- x[i] = e, x a name with a list or dict of its own -/
def sPutS (f : D → D → D → Option D) (n : Nat) (i e : Ev) : Sv := fun sd M => (e sd M).toF sd fun x M1 => match sget sd n with
  | none => .bad
  | some _ => (i sd M1).toF sd fun k M2 => (match (sget sd n).bind fun d => f d k x with
    | some d' => .nx (sd.set n (some d')) M2
    | none => .bad)
theorem psv_putS {f : D → D → D → Option D} {r : V → V → V → Hp → (Hp → Prop) → Prop} {n : Nat} {i : Expr} {iv xv : Ev} (ok : PutOK ofl X f r)
    (h : ∀ ti te, PE X i ti → PE X e te → PS X st (fun E σ H => te σ H fun x H1 => tVar n σ H1 fun o H2 => ti σ H2 fun k H3 => r o k x H3 fun H4 => E.nx σ H4)) (hi : PEv ofl X W ow p .dat i iv) (he : PEv ofl X W ow p .dat e xv) (hn : ow.contains n = true) : PSv ofl X W ow ow ro st (sPutS f n iv xv) := by
  refine ⟨PS.imp (h _ _ hi.pe he.pe) fun E σ H q => ?_⟩
  obtain ⟨F, G, ι, O, sd, M, s, q⟩ := q
  have hn' : n ∈ ow := by simpa using hn
  refine seq_s s q fun x M1 v H1 G1 ι1 O1 sg1 pr1 s1 k1 q1 => ?_
  cases z : sget sd n with
  | none => rw [z] at q1; exact q1.elim
  | some d =>
    rw [z] at q1
    dsimp only at q1
    have hd := sget_some z
    obtain ⟨v', e1, e2⟩ := s.sl.2 n d hd
    rw [if_pos hn'] at e2
    obtain ⟨b, rfl, _, _⟩ := e2
    refine ⟨.ref b, e1, seq_s s1 (q1.up sg1 pr1) fun kd M2 kv H2 G2 ι2 O2 sg2 pr2 s2 k2 q2 => ?_⟩
    obtain ⟨b1, g1, g2, g3, g4⟩ := s2.wslot hn' hd
    rw [e1] at g1
    cases g1
    have q3 : SPo X.K X.mg ofl W ow ow ro F G1 ι1 E (match f d kd x with
      | some d' => .nx (sd.set n (some d')) M2
      | none => .bad) := q2
    cases z3 : f d kd x with
    | none => rw [z3] at q3; exact q3.elim
    | some d' =>
      rw [z3] at q3
      exact ok F G2 ι2 O2 ow σ sd M2 H2 b d kd x d' kv v _ s2 g2 k2 (IsD.mono sg2 pr2 k1) z3 fun o c => q3 σ _ G2 ι2 O2 sg2 pr2 (g4 o d' c)
/-- x[i] = e, x a list or dict in the memory -/
def sPutM (f : D → D → D → Option D) (o i e : Ev) : Sv := fun sd M => (e sd M).toF sd fun x M1 => (o sd M1).toF sd fun d0 M2 => (i sd M2).toF sd fun k M3 => match memD M3 d0 with
  | some (l, d) => (match (f d k x).bind D.mo with
    | some m => .nx sd (M3.set l m)
    | none => .bad)
  | none => .bad
theorem psv_putM {f : D → D → D → Option D} {r : V → V → V → Hp → (Hp → Prop) → Prop} {i : Expr} {oe iv xv : Ev} (ok : PutOK ofl X f r)
    (h : ∀ to ti te, PE X o to → PE X i ti → PE X e te → PS X st (fun E σ H => te σ H fun x H1 => to σ H1 fun o H2 => ti σ H2 fun k H3 => r o k x H3 fun H4 => E.nx σ H4)) (ho : PEv ofl X W ow p .dat o oe) (hi : PEv ofl X W ow p .dat i iv) (he : PEv ofl X W ow p .dat e xv) :
    PSv ofl X W ow ow ro st (sPutM f oe iv xv) := by
  refine ⟨PS.imp (h _ _ _ ho.pe hi.pe he.pe) fun E σ H q => ?_⟩
  obtain ⟨F, G, ι, O, sd, M, s, q⟩ := q
  refine seq_s s q fun x M1 v H1 G1 ι1 O1 sg1 pr1 s1 k1 q1 => ?_
  refine seq_s s1 (q1.up sg1 pr1) fun d0 M2 ov H2 G2 ι2 O2 sg2 pr2 s2 k2 q2 => ?_
  refine seq_s s2 (q2.up sg2 pr2) fun kd M3 kv H3 G3 ι3 O3 sg3 pr3 s3 k3 q3 => ?_
  cases z2 : memD M3 d0 with
  | none => rw [z2] at q3; exact q3.elim
  | some ld =>
    obtain ⟨l, d⟩ := ld
    rw [z2] at q3
    dsimp only at q3
    obtain ⟨rfl, m2, hm2, hd2⟩ := memD_some z2
    obtain ⟨b1, g1, g2, g3⟩ := s3.wmem (moD_mo hd2) hm2
    cases k2 with
    | obj ha =>
      have hb := pr3 _ _ ha
      rw [g1] at hb
      cases hb
      cases z3 : (f d kd x).bind D.mo with
      | none => rw [z3] at q3; exact q3.elim
      | some m' =>
        rw [z3] at q3
        obtain ⟨d', e1, e2⟩ := Option.bind_eq_some_iff.mp z3
        exact ok F G3 ι3 O3 ow σ sd M3 H3 _ d kd x d' kv v _ s3 g2 k3 (IsD.mono (sg2.trans sg3) (pr2.trans pr3) k1) e1 fun o c => q3 σ _ G3 ι3 O3 sg3 pr3 (g3 o d' m' e2 c)
end
end La

set_option Elab.async false
set_option linter.all false
set_option maxRecDepth 100000
set_option maxHeartbeats 4000000
/-! LaX1: an own exception class right under a built-in one (any that the library knows), its __init__ walked as a def. -/
namespace LaX
open PySem PySem.Spec PySem.W L2
open Builtin Builtin.ObjectAttr

/-- what the written part says of such a class -/
structure XCls (K : Frag) (C : Addr) (bmB : List Value) (newId : String) : Prop where
  ini : excInitIn K C bmB newId = true
  ov : excOver K C bmB = true
  hd : hasDictIn K C = true
  sa : findIn K (.ref C) "__setattr__" = some (some (.builtin "object.__setattr__"))
  exC : subIn K (.ref C) (.type "BaseException") = some true
  tyC : typeIn K (.ref C) = some (.type "type")
  kC : keepIn K (.ref C) = true
  ga : findIn K (.ref C) "__getattribute__" = some (some (.builtin "BaseException.__getattribute__"))
  gg : findIn K (.ref C) "__getattr__" = some none
theorem some_any {α : Type} {o : Option α} {p : α → Bool} (h : o.any p = true) : ∃ a, o = some a ∧ p a = true := by
  cases o with
  | none => cases h
  | some a => exact ⟨a, rfl, h⟩

section
variable {prog : Program} {w : World} {A : Around} {R : Result → Shared → Prop} {hp : Heap} {g : Array GenState} {d : Drawn} {t : Nat} {os : OsState} {B : String} {bmB : List Value} {newId : String}
/-- self.name = v, the first one -/
theorem store1 {K : Frag} {name : Str} {tk : Tok} {v : Value} {x C : Addr} {fv : Array Value} (SF : StoreFacts B bmB "object.__setattr__" "object") (X : K.In hp) (T : XCls K C bmB newId) (hx : hp.get? x = some { cls := .ref C, data := .fields fv }) (ht : takerIn K C name = some none)
    (hq : ∀ h' tk' dx, (∀ b o, b ≠ x → hp.get? b = some o → h'.get? b = some o) → hp.objs.size ≤ dx → dx ≠ x → h'.get? x = some { cls := .ref C, dict := some dx, data := .fields fv } →
      h'.Ns1 dx (fun y => if y = name then some v else none) → R (.ok (.ret .none)) ⟨h', g, d, tk', os⟩) :
    codeAny (model prog w) A (.call (.builtin "object.__setattr__") ⟨[.ref x, .str name tk, v], []⟩) R ⟨hp, g, d, t, os⟩ := by
  obtain ⟨cd, hc, hd'⟩ := some_any T.hd
  have hcl : Looks (model prog w) hp (classData C) cd := looks_clsIn X hc
  have far : x ≠ hp.objs.size := Nat.ne_of_lt (Heap.lt_size hx)
  refine osa_openX (s := ⟨hp, g, d, t, os⟩) (od := none) SF X ⟨hx, rfl, rfl, trivial⟩ T.ov ht fun b => ?_
  show wpAny _ _ (storeInOwnDict (.ref x) (.ref C) (.str name tk) name v b) _ _ _
  obtain ⟨nm, bs, mro, ns, qn, hdc, sn, sb, ab, col, del⟩ := cd
  have e0 : hdc = true := hd'
  subst e0
  unfold storeInOwnDict ownDictForStores
  repeat (first | with_reducible refine HandSPX.store_in_new ?_ ?_ | with_reducible refine wpAny_loadPart_at hx ?_ | with_reducible refine hcl.at ?_ | wp_step)
  · exact ⟨_, #[], _, (Heap.get?_update_ne _ _ _ _ far.symm).trans (Heap.get?_push_at rfl rfl), rfl, fun e he => absurd he (by simp), fun _ => rfl⟩
  · intro h' tk' mine same
    have there : (hp.push { cls := .type "dict", data := .dict #[] }).get? x = some { cls := .ref C, data := .fields fv } := Heap.get?_push_of_some _ hx
    refine hq h' tk' hp.objs.size (fun b o ne ho => ?_) (Nat.le_refl _) far.symm ((same.2 x far).trans (Heap.get?_update_self _ there rfl)) mine
    exact (same.2 b (Nat.ne_of_lt (Heap.lt_size ho))).trans ((Heap.get?_update_ne _ _ _ _ ne).trans (Heap.get?_push_of_some _ ho))
/-- .. a further one -/
theorem store2 {K : Frag} {name : Str} {tk : Tok} {v : Value} {x C dx : Addr} {fv : Array Value} {m0 : Str → Option Value} {nl : List Str} (SF : StoreFacts B bmB "object.__setattr__" "object") (X : K.In hp) (T : XCls K C bmB newId)
    (hx : hp.get? x = some { cls := .ref C, dict := some dx, data := .fields fv }) (hns : hp.Ns1 dx m0) (hw : Within m0 nl) (hz : nl.length ≤ 1000) (ht : takerIn K C name = some none)
    (hq : ∀ h' tk', (∀ b o, b ≠ dx → hp.get? b = some o → h'.get? b = some o) → h'.Ns1 dx (fun y => if y = name then some v else m0 y) → R (.ok (.ret .none)) ⟨h', g, d, tk', os⟩) :
    codeAny (model prog w) A (.call (.builtin "object.__setattr__") ⟨[.ref x, .str name tk, v], []⟩) R ⟨hp, g, d, t, os⟩ := by
  obtain ⟨cd, hc, hd'⟩ := some_any T.hd
  have hcl : Looks (model prog w) hp (classData C) cd := looks_clsIn X hc
  obtain ⟨oD, _, _, hoD, _, _⟩ := hns.count hw
  refine osa_openX (s := ⟨hp, g, d, t, os⟩) (od := some oD) SF X ⟨hx, rfl, rfl, hoD⟩ T.ov ht fun b => ?_
  show wpAny _ _ (storeInOwnDict (.ref x) (.ref C) (.str name tk) name v b) _ _ _
  obtain ⟨nm, bs, mro, ns, qn, hdc, sn, sb, ab, col, del⟩ := cd
  have e0 : hdc = true := hd'
  subst e0
  unfold storeInOwnDict ownDictForStores
  repeat (first | with_reducible refine OEX.store_in_old hns hw hz ?_ | with_reducible refine wpAny_loadPart_at hx ?_ | with_reducible refine hcl.at ?_ | wp_step)
  intro h' tk' mine same
  exact hq h' tk' (fun b o ne ho => (same.2 b ne).trans ho) mine
end

section
variable {X : Cx} {pins : List (Addr × Obj)} {σ : L2.St} {H : Hp} {s : Shared} {a C dx : Addr} {f : Str} {y : V} {u : Value} {fs : List (Str × V)} {Q : Unit → Shared → Prop} {E : Value → Shared → Prop} {A : Around} {B initId : String} {bmB : List Value} {newId : String}
theorem xset1 (SF : StoreFacts B bmB "object.__setattr__" "object") (T : XCls X.K C bmB newId) (I : Inv X pins σ H s) (e : H a = some (exo a C none)) (hno : takerIn X.K C f = some none) (ry : RelV y u)
    (h : ∀ dx s', H dx = none → dx ≠ a → Inv X pins σ (upd (upd H dx (exd dx [(f, y)])) a (exo a C (some dx))) s' → Q () s') : wpAny (model X.prog X.w) A (setAttr (.ref a) f u) Q E s := by
  obtain ⟨t1, ho⟩ := exo_at I.hok e
  obtain ⟨hp, g, d, t, os⟩ := s
  refine set_plain I.kIn (ox := { cls := .ref C, dict := none, data := .fields #[.ref t1, .none, .none, .none, .bool false, .none] }) (od := none) ⟨ho, rfl, rfl, trivial⟩ T.sa ?_
  refine store1 SF I.kIn T ho hno fun h' tk' dx k dn dne hx hn => ?_
  have free : H dx = none := I.hok.fresh dn
  have nd : ∀ {b : Addr} {o : Obj}, hp.get? b = some o → b ≠ dx := fun q z => Nat.lt_irrefl _ (Nat.lt_of_lt_of_le (Heap.lt_size q) (z ▸ dn))
  have na : ∀ {b : Addr}, H b = none → b ≠ a := fun n z => by rw [z, e] at n; cases n
  have U : Un X.fs [] H (upd (upd H dx (exd dx [(f, y)])) a (exo a C (some dx))) hp h' := by
    refine ⟨fun b o q n _ _ => k b o (na n) q, fun b o q n _ _ => ⟨o.slots, k b o (na n) q⟩, fun b o q n _ => ?_, fun b o q _ => ?_, fun b xs q => ?_, fun b o v q => ?_, fun b ps q => ⟨#[], ?_⟩⟩
    · rw [upd_ne (na n), upd_ne (nd q)]
      exact n
    · by_cases hb : b = a
      · exact ⟨_, hb ▸ hx⟩
      · exact ⟨o, k b o hb q⟩
    · rw [upd_ne (at_ne e q exo_tup), upd_ne (ne_of_none q free)]
      exact q
    · rw [upd_ne (at_ne e q exo_frz), upd_ne (ne_of_none q free)]
      exact q
    · rw [upd_ne (at_ne e q exo_tbl), upd_ne (ne_of_none q free), q]
      simp
  refine h dx _ free dne (I.un (t' := tk') U fun b o q => ?_)
  by_cases hb : b = a
  · subst hb
    rw [upd_same] at q
    exact Option.some.inj q ▸ exo_ok hx
  · rw [upd_ne hb] at q
    by_cases hd : b = dx
    · subst hd
      rw [upd_same] at q
      exact Option.some.inj q ▸ exd_ok hn (relO_put (fs := []) ry fun g => True.intro)
    · rw [upd_ne hd] at q
      refine (I.hok b o q).stay (fun c v hc z => k c v ?_ z) (fun c hc => ?_) (fun c xs hc => ?_)
      · rcases hc with hc | hc
        · exact hc ▸ hb
        · exact at_ne e hc exo_own
      · rw [upd_ne (at_ne e hc exo_own), upd_ne (ne_of_none hc free)]
        exact hc
      · rw [upd_ne (at_ne e hc exo_tup), upd_ne (ne_of_none hc free)]
        exact hc
theorem xset2 (SF : StoreFacts B bmB "object.__setattr__" "object") (T : XCls X.K C bmB newId) (I : Inv X pins σ H s) (e : H a = some (exo a C (some dx))) (ed : H dx = some (exd dx fs)) (hl : fs.length ≤ 900) (hno : takerIn X.K C f = some none) (ry : RelV y u)
    (h : ∀ s', Inv X pins σ (upd H dx (exd dx ((f, y) :: fs))) s' → Q () s') : wpAny (model X.prog X.w) A (setAttr (.ref a) f u) Q E s := by
  obtain ⟨t1, ho⟩ := exo_at I.hok e
  obtain ⟨mA, hns, rel⟩ := exd_at I.hok ed
  have wi := within_of rel
  obtain ⟨hp, g, d, t, os⟩ := s
  obtain ⟨oD, _, _, hoD, _, _⟩ := hns.count wi
  refine set_plain I.kIn (ox := { cls := .ref C, dict := some dx, data := .fields #[.ref t1, .none, .none, .none, .bool false, .none] }) (od := some oD) ⟨ho, rfl, rfl, hoD⟩ T.sa ?_
  refine store2 SF I.kIn T ho hns wi (by rw [List.length_map]; omega) hno fun h' tk' k hn => ?_
  have there : ∃ o, h'.get? dx = some o := hn.elim fun o q => q.elim fun _ q => q.elim fun _ q => ⟨o, q.1⟩
  exact h _ (I.write (t' := tk') (x := dx) (e := dx) (o := exd dx ((f, y) :: fs)) (by rw [ed]; exact True.intro) (.inl rfl) k there (exd_ok hn (relO_put ry rel)))
/-- Base.__init__(self, ..): nothing of it is told -/
theorem xini {us : List Value} {Q : Value → Shared → Prop} (F : ExcBaseFacts B newId initId bmB) (T : XCls X.K C bmB newId) (I : Inv X pins σ H s) (e : H a = some (exo a C none)) (hl : us.length ≤ sizeLine) (h : ∀ s', Inv X pins σ H s' → Q .none s') :
    wpAny (model X.prog X.w) A (call (.builtin initId) (.ref a :: us)) Q E s := by
  obtain ⟨nm, N, qn, bs, bm, hdct, sn, sub, ab, col, dd, k0, k1, k2, k3, k5, hC, hT⟩ := excInit_of I.kIn T.ini
  obtain ⟨t1, ho⟩ := exo_at I.hok e
  obtain ⟨hp, g, d, t, os⟩ := s
  refine wpAny_call (HandSPX.init_base F hT hC ho hl fun h' t2 k hx => ?_)
  have J := I.write (t' := t) (x := a) (e := a) (o := exo a C none) (by rw [e]; exact True.intro) (.inl rfl) k ⟨_, hx⟩ (exo_ok hx)
  have eu : upd H a (exo a C none) = H := funext fun b => by
    by_cases hb : b = a
    · rw [hb, upd_same, e]
    · exact upd_ne hb
  exact h _ (eu ▸ J)
end

/-! ### readings -/
def tXini (K : Frag) (bmB : List Value) (newId : String) (ta : TA) : TE := fun σ H Q => ta σ H fun vs H1 => ∃ (a C : Addr) (ws : List V), vs = .ref a :: ws ∧ ws.length ≤ 1000 ∧ XCls K C bmB newId ∧ H1 a = some (exo a C none) ∧ Q .non H1
def tXset (K : Frag) (bmB : List Value) (newId : String) (f : Str) (to te : TE) : TS := fun D σ H => te σ H fun y H1 => to σ H1 fun x H2 => ∃ a C : Addr, x = .ref a ∧ XCls K C bmB newId ∧ takerIn K C f = some none ∧
  ((H2 a = some (exo a C none) ∧ ∀ dx, H2 dx = none → dx ≠ a → D.nx σ (upd (upd H2 dx (exd dx [(f, y)])) a (exo a C (some dx)))) ∨
    ∃ (dx : Addr) (fs : List (Str × V)), H2 a = some (exo a C (some dx)) ∧ H2 dx = some (exd dx fs) ∧ fs.length ≤ 900 ∧ D.nx σ (upd H2 dx (exd dx ((f, y) :: fs))))
section
variable {X : Cx} {o e : Expr} {es : List Expr} {to te : TE} {ta : TA} {f : Str} {p p' p1 p2 pos : Pos} {B initId : String} {bmB : List Value} {newId : String}
theorem pe_xini {pl : Sem Bool} {nB : Str} (F : ExcBaseFacts B newId initId bmB) (hg : Gl X nB) (hm : X.mg nB = none) (hv : bootBuiltins nB = some (.type B)) (ty : typeOf (.type B) = pure (.type "type")) (stub : Manifest.isStub B = false)
    (vV : findCls X.K (.type B) (.type "type") "__init__" = some (.val (.builtin initId))) (hh : handedIn (.builtin initId) = true) (ha : PA X (e :: es) ta) (hn : nB ≠ "__name__") (hdb : (nB == ("__debug__" : Str)) = false)
    (hc : eval (.Call (.Attribute (.Name nB p1) "__init__" p2) (e :: es) [] pos) X.env = (do
      let ov ← eval (.Name nB p1) X.env
      standAt p2.atName
      let (f, first) ← holding [ov] (getMethod ov "__init__" pl)
      callWith pos f first (backTo pos (starEach (e :: es) X.env)) (backToKw pos (keywordEach [] X.env))))
    (he : starEach (e :: es) X.env = (false, eval e X.env) :: starEach es X.env := by rfl) (hpl : (backTo pos (starEach es X.env)).any (·.1) = false := by rfl) :
    PE X (.Call (.Attribute (.Name nB p1) "__init__" p2) (e :: es) [] pos) (tXini X.K bmB newId ta) := by
  refine ⟨fun pins s σ H Q I h => methodCall_KW (ld_blt I hg hm hv ?_ hn hdb) hc⟩
  obtain ⟨m, fr⟩ := I.fr
  refine method_type fr I.ok.mod.kin ty stub vV hh ?_
  show wpAny _ _ (callWith pos (Value.builtin initId) [] (backTo pos (starEach (e :: es) X.env)) []) _ _ _
  refine PyProof.Rows.callWith_method1 (thn (ha.run pos pins _ σ H _ (I.tok _) h) fun us s1 z => ?_) he hpl
  obtain ⟨vs, H1, I1, r1, a, C, ws, ev, hl, T, ea, q⟩ := z
  subst ev
  cases r1 with
  | @cons _ u0 _ ur ra rw' =>
    obtain rfl : u0 = Value.ref a := ra
    have fits : ur.length ≤ sizeLine := by
      rw [← Paired.length rw', sizeLine_eq]
      omega
    exact xini F T I1 ea fits fun s' J => ⟨.non, H1, J, rfl, q⟩
theorem ps_xset (SF : StoreFacts B bmB "object.__setattr__" "object") (ho : PE X o to) (he : PE X e te) (hs : swapsWith e (some (.Attribute o f p')) pos.line X.env = pure false := by rfl) : PS X (.Assign [.Attribute o f p'] e pos) (tXset X.K bmB newId f to te) := by
  refine ⟨fun pins s σ H D I h => plainObj_wpAny_Assign_Attribute (thn (he.run pins s σ H _ I h) fun v s1 z1 => ?_) hs⟩
  obtain ⟨y, H1, I1, r1, q1⟩ := z1
  refine thn (ho.run pins s1 σ H1 _ I1 q1) fun u s2 z2 => ?_
  obtain ⟨x, H2, I2, r2, a, C, ex, T, hno, q⟩ := z2
  subst ex
  obtain rfl : u = Value.ref a := r2
  rcases q with ⟨ea, q⟩ | ⟨dx, fs, ea, ed, hl, q⟩
  · exact xset1 SF T I2 ea hno r1 fun dx s' n ne J => ⟨σ, _, J, q dx n ne⟩
  · exact xset2 SF T I2 ea ed hl hno r1 fun s' J => ⟨σ, _, J, q⟩
/-- C(e, ..), its own __init__ keeping sp -/
theorem pmk_x {CX : CXT} {x : Str} {C fI : Addr} {k : Nat} {fd : FuncData} {ps : List Str} {sp : Sp} (F : ExcBaseFacts B newId initId bmB) (T : XCls X.K C bmB newId) (iC : findIn X.K (.ref C) "__init__" = some (some (.ref fI))) (tI : typeIn X.K (.ref fI) = some (.type "function"))
    (F1 : FnOk X.prog X.w X.K X.mg X.base CX k fI fd ps sp) (hr : Room (k + 1) X.A) (hb : Binds X.K fd ps []) (hx : Passes CX X (fun _ _ _ => False)) (hg : Gl X x) (hm : X.mg x = some (.ref C)) (ha : PA X (e :: es) ta)
    (hdb : (x == ("__debug__" : Str)) = false := by decide) (he : starEach (e :: es) X.env = (false, eval e X.env) :: starEach es X.env := by rfl) (hpl : (backTo pos (starEach es X.env)).any (·.1) = false := by rfl) :
    PMk X (.Call (.Name x p) (e :: es) [] pos) (tMkO C sp [] ta) := by
  intro pins s σ H Q I h
  refine wpAny_Call_Name_kw (ld_glob I hg hm ?_ hdb)
  refine callWith_K (h₀ := X.base) I.ok.mod.kin T.kC (thn (ha.run pos pins s σ H _ I h) fun us s1 z => ?_) he hpl
  obtain ⟨vs, H1, I1, r1, hz, q1⟩ := z
  refine ⟨I1.kIn, show wpAny _ _ (call (.ref C) us) _ _ _ from ?_⟩
  obtain ⟨nm, N, qn, bs, bm, hdct, sn, sub, ab, col, dd, k0, k1, k2, k3, k5, hC, hT⟩ := excInit_of I1.kIn T.ini
  obtain ⟨hp, g, dr, tk, os⟩ := s1
  have up1 : hp.objs.size ≤ hp.objs.size + 1 := Nat.le_succ _
  have new : H1 (hp.objs.size + 1) = none := I1.hok.fresh up1
  have hq := q1 (hp.objs.size + 1) new
  rw [List.append_nil] at hq
  have kk : ∀ b o, hp.get? b = some o → ((hp.push (kdv_tup us)).push (HandSPX.excO C hp.objs.size)).get? b = some o := fun b o z => Heap.get?_push_of_some _ (Heap.get?_push_of_some _ z)
  have made : ((hp.push (kdv_tup us)).push (HandSPX.excO C hp.objs.size)).get? (hp.objs.size + 1) = some (HandSPX.excO C hp.objs.size) := by heap_get
  have I2 : Inv X pins σ (upd H1 (hp.objs.size + 1) (exo (hp.objs.size + 1) C none)) ⟨(hp.push (kdv_tup us)).push (HandSPX.excO C hp.objs.size), g, dr, tk, os⟩ :=
    I1.laid (t' := tk) (a := hp.objs.size + 1) (o := exo (hp.objs.size + 1) C none) (h' := (hp.push (kdv_tup us)).push (HandSPX.excO C hp.objs.size)) kk up1 (exo_ok made)
  have r2 : Vals (V.ref (hp.objs.size + 1) :: vs) (Value.ref (hp.objs.size + 1) :: us) := .cons rfl r1
  have hl : (Value.ref (hp.objs.size + 1) :: us).length = ps.length := (F1.len _ _ _ _ hq ▸ r2.length).symm
  have b2 := hb ⟨(hp.push (kdv_tup us)).push (HandSPX.excO C hp.objs.size), g, dr, tk, os⟩ (Value.ref (hp.objs.size + 1) :: us) I2.kIn (by rw [List.append_nil]; exact hl)
  rw [List.append_nil] at b2
  have fits : us.length ≤ sizeLine := by
    rw [← Paired.length r1, sizeLine_eq]
    omega
  have go := F1.run _ X.stack _ _ ⟨Value.ref (hp.objs.size + 1) :: us, []⟩ (Value.ref (hp.objs.size + 1) :: us) _ _ (fun _ _ _ => False) (hr.make C us []) (I2.env0.make C us []) b2 r2 hq
  refine wpAny_call (HandSPX.call_own F hT hC (looks_findIn I1.kIn iC) (fun self => bind_fn I1.kIn self tI) fits (codeAny_mono go fun r s' z => ?_))
  cases r with
  | error er => exact hx pins σ _ _ er s' I2 z
  | ok fl =>
    cases fl with
    | ret u =>
      obtain ⟨v, H2, os2, bare2, un2, hok2, rv, ev, d, fs, ea, ed, hd1, q2⟩ := z
      subst ev
      obtain ⟨h2, g2, d2, t2, os'⟩ := s'
      exact ⟨rv, mk_end (raises_own T.exC T.tyC) I1 up1 kk un2 hok2 os2 bare2 ea ed hd1 q2⟩
    | next => exact False.elim z
    | brk => exact False.elim z
    | cont => exact False.elim z
end
end LaX

set_option Elab.async false
set_option linter.all false
set_option maxRecDepth 100000
/-! LaX2: the promise of an own exception's __init__, and raise. -/
namespace La
open PySem PySem.Spec L2
open LaX

/-- __init__ with one field, with two -/
def spX1 (K : PySem.W.Frag) (bmB : List Value) (newId : String) (f : Str) : Sp := fun vs H Q _ => ∃ (a C : Addr) (y : V), vs = [.ref a, y] ∧ XCls K C bmB newId ∧ PySem.W.takerIn K C f = some none ∧ H a = some (exo a C none) ∧
  ∀ dx, H dx = none → dx ≠ a → Q .non (upd (upd H dx (exd dx [(f, y)])) a (exo a C (some dx)))
def spX2 (K : PySem.W.Frag) (bmB : List Value) (newId : String) (f g : Str) : Sp := fun vs H Q _ => ∃ (a C : Addr) (y z : V), vs = [.ref a, y, z] ∧ XCls K C bmB newId ∧ PySem.W.takerIn K C f = some none ∧ PySem.W.takerIn K C g = some none ∧ H a = some (exo a C none) ∧
  ∀ dx, H dx = none → dx ≠ a → Q .non (upd (upd (upd H dx (exd dx [(f, y)])) a (exo a C (some dx))) dx (exd dx [(g, z), (f, y)]))
def tX1 (K : PySem.W.Frag) (bmB : List Value) (newId : String) (msg f : Str) : TS := tSeq (tDrop (tXini K bmB newId (tCons (tVar 0) (tCons (tC (.str msg)) tNil)))) (tXset K bmB newId f (tVar 0) (tVar 1))
def tX2 (K : PySem.W.Frag) (bmB : List Value) (newId : String) (msg f g : Str) : TS := tSeq (tDrop (tXini K bmB newId (tCons (tVar 0) (tCons (tC (.str msg)) tNil)))) (tSeq (tXset K bmB newId f (tVar 0) (tVar 1)) (tXset K bmB newId g (tVar 0) (tVar 2)))
section
variable {P : Program} {w : World} {K : PySem.W.Frag} {mg : Str → Option Value} {base : Heap} {x qual : Str} {st : Stmt} {fI : Addr} {fd : FuncData} {N ps : List Str} {k : Nat} {bmB : List Value} {newId : String} {msg f g : Str}
theorem xinit1_ok (F : Fun K x qual st fI fd) (S : FnScope N ps (defScope st)) (hp : ps.length = 2) (hN : N.length = 2)
    (hb : ∀ (cdv : Value) (A : Around) (outer : List Env) (s : Shared) (H : Hp) (E : XK), PSs (cxOf (L2.CX P w) P w K mg base N qual (defScope st) fI cdv A outer s H E) (defBody st) (tX1 K bmB newId msg f)) :
    FnOk P w K mg base (L2.CX P w) (k + 1) fI fd ps (spX1 K bmB newId f) := by
  refine F.okX S (fun vs H Q E h => ?_) fun cdv A outer s H vs Q E _ h => ⟨_, hb cdv A outer s H E, ?_⟩
  · obtain ⟨a, C, y, rfl, _⟩ := h
    exact hp.symm
  · obtain ⟨a, C, y, rfl, T, t1, e, q⟩ := h
    have e2 : L2.start N [V.ref a, y] = [some (V.ref a), some y] := by unfold L2.start; rw [hN]; rfl
    rw [e2]
    refine ⟨.ref a, rfl, a, C, [.str msg], rfl, show 1 ≤ 1000 by decide, T, e, y, rfl, .ref a, rfl, a, C, rfl, T, t1, .inl ⟨e, fun dx h1 h2 => q dx h1 h2⟩⟩
theorem xinit2_ok (F : Fun K x qual st fI fd) (S : FnScope N ps (defScope st)) (hp : ps.length = 3) (hN : N.length = 3)
    (hb : ∀ (cdv : Value) (A : Around) (outer : List Env) (s : Shared) (H : Hp) (E : XK), PSs (cxOf (L2.CX P w) P w K mg base N qual (defScope st) fI cdv A outer s H E) (defBody st) (tX2 K bmB newId msg f g)) :
    FnOk P w K mg base (L2.CX P w) (k + 1) fI fd ps (spX2 K bmB newId f g) := by
  refine F.okX S (fun vs H Q E h => ?_) fun cdv A outer s H vs Q E _ h => ⟨_, hb cdv A outer s H E, ?_⟩
  · obtain ⟨a, C, y, z, rfl, _⟩ := h
    exact hp.symm
  · obtain ⟨a, C, y, z, rfl, T, t1, t2, e, q⟩ := h
    have e2 : L2.start N [V.ref a, y, z] = [some (V.ref a), some y, some z] := by unfold L2.start; rw [hN]; rfl
    rw [e2]
    refine ⟨.ref a, rfl, a, C, [.str msg], rfl, show 1 ≤ 1000 by decide, T, e, y, rfl, .ref a, rfl, a, C, rfl, T, t1, .inl ⟨e, fun dx h1 h2 => ?_⟩⟩
    exact ⟨z, rfl, .ref a, rfl, a, C, rfl, T, t2, .inr ⟨dx, [(f, y)], upd_same, by rw [upd_ne h2, upd_same], show 1 ≤ 900 by decide, q dx h1 h2⟩⟩
end

/-! ### raise -/
theorem xd_heap1 {H : Hp} {a dx C : Addr} {o1 o2 : HO} {u : HO} (ha : H a = none) (hne : dx ≠ a) : upd (del (upd (upd (upd H a o1) dx u) a o2) a) dx (.xd fs) = upd H dx (.xd fs) := by
  funext b
  by_cases hb : b = dx
  · rw [hb, upd_same, upd_same]
  · rw [upd_ne hb, upd_ne hb]
    by_cases hc : b = a
    · rw [hc, del_same, ha]
    · rw [del_ne hc, upd_ne hc, upd_ne hb, upd_ne hc]
theorem xd_heap2 {H : Hp} {a dx C : Addr} {o1 o2 : HO} {u u2 : HO} (ha : H a = none) (hne : dx ≠ a) : upd (del (upd (upd (upd (upd H a o1) dx u) a o2) dx u2) a) dx (.xd fs) = upd H dx (.xd fs) := by
  funext b
  by_cases hb : b = dx
  · rw [hb, upd_same, upd_same]
  · rw [upd_ne hb, upd_ne hb]
    by_cases hc : b = a
    · rw [hc, del_same, ha]
    · rw [del_ne hc, upd_ne hb, upd_ne hc, upd_ne hb, upd_ne hc]
/-- raise C(d), raise C(d, e) -/
def sRaise (c : Str) (mk : List D → Option (List (Str × D))) (av : Av) : Sv := fun sd M => match av sd M with
  | .ok ds M' => match mk ds with
    | some fs => .exc ⟨c, fs⟩ sd M'
    | none => .bad
  | .exc x M' => .exc x sd M'
  | .bad => .bad
def mk1 (f : Str) : List D → Option (List (Str × D))
  | [d] => some [(f, d)]
  | _ => none
def mk2 (f g : Str) : List D → Option (List (Str × D))
  | [d, e] => some [(g, e), (f, d)]
  | _ => none
section
variable {ofl : Str → Str → Bool} {X : Cx} {W : WX} {ow : List Nat} {ro : Bool} {e : Expr} {es : List Expr} {av : Av} {bmB : List Value} {B newId initId : String} {c : Str} {C fI : Addr} {k : Nat} {fd : FuncData} {ps : List Str} {f g : Str} {pp pos pos' : Pos} {pu : Bool}
theorem psv_raise1 (F : ExcBaseFacts B newId initId bmB) (T : XCls X.K C bmB newId) (iC : PySem.W.findIn X.K (.ref C) "__init__" = some (some (.ref fI))) (tI : PySem.W.typeIn X.K (.ref fI) = some (.type "function"))
    (F1 : FnOk X.prog X.w X.K X.mg X.base (L2.CX X.prog X.w) k fI fd ps (spX1 X.K bmB newId f)) (hr : Room (k + 1) X.A) (hb : Binds X.K fd ps []) (hx : Passes (L2.CX X.prog X.w) X (fun _ _ _ => False)) (hg : Gl X c) (hm : X.mg c = some (.ref C)) (t1 : PySem.W.takerIn X.K C f = some none)
    (ha : PAv ofl X W ow pu (e :: es) av) (hc : X.calm = true) (tk : Takes X W)
    (hdb : (c == ("__debug__" : Str)) = false := by decide) (he : starEach (e :: es) X.env = (false, eval e X.env) :: starEach es X.env := by rfl) (hpl : (backTo pos (starEach es X.env)).any (·.1) = false := by rfl) :
    PSv ofl X W ow ow ro (.Raise (some (.Call (.Name c pp) (e :: es) [] pos)) none pos') (sRaise c (mk1 f) av) := by
  refine ⟨PS.imp (ps_raise hc tk (pmk_x (es := es) (pos := pos) F T iC tI F1 hr hb hx hg hm ha.pa hdb he hpl)) fun D σ H h => ?_⟩
  obtain ⟨Fo, G, ι, O, sd, M, s, h⟩ := h
  refine ⟨Fo, G, ι, O, sd, M, s, ?_⟩
  unfold sRaise at h
  cases z : av sd M with
  | bad => rw [z] at h; exact h
  | exc x M' =>
    rw [z] at h
    exact fun c da H' G' ι' O' sg pr s' ex => h c da σ H' G' ι' O' sg pr s' ex
  | ok ds M' =>
    rw [z] at h
    dsimp only at h
    match ds, h with
    | [], h => exact h.elim
    | _ :: _ :: _, h => exact h.elim
    | [d], h =>
      intro vs H1 G1 ι1 O1 sg pr s1 hv _
      cases hv with
      | @cons y _ _ _ hy hv =>
        cases hv
        refine ⟨show 1 ≤ 1000 by decide, fun a na => ⟨a, C, y, rfl, T, t1, upd_same, fun dx h1 h2 => ⟨rfl, dx, [(f, y)], upd_same, by rw [upd_ne h2, upd_same], by rw [upd_ne h2] at h1; exact h1, ?_⟩⟩⟩
        rw [xd_heap1 (C := C) na h2]
        rw [upd_ne h2] at h1
        obtain ⟨s2, sg2, _, e2⟩ := s1.laidG (o := .xd [(f, y)]) h1
        exact h _ _ _ _ _ _ _ (fun b u q => sg2 b u (sg b u q)) pr s2 ⟨.inl hm, .inr ⟨dx, _, rfl, e2, .cons (hy.mono sg2 (Pre.refl _)) .nil⟩⟩
theorem psv_raise2 (F : ExcBaseFacts B newId initId bmB) (T : XCls X.K C bmB newId) (iC : PySem.W.findIn X.K (.ref C) "__init__" = some (some (.ref fI))) (tI : PySem.W.typeIn X.K (.ref fI) = some (.type "function"))
    (F1 : FnOk X.prog X.w X.K X.mg X.base (L2.CX X.prog X.w) k fI fd ps (spX2 X.K bmB newId f g)) (hr : Room (k + 1) X.A) (hb : Binds X.K fd ps []) (hx : Passes (L2.CX X.prog X.w) X (fun _ _ _ => False)) (hg : Gl X c) (hm : X.mg c = some (.ref C)) (t1 : PySem.W.takerIn X.K C f = some none) (t2 : PySem.W.takerIn X.K C g = some none)
    (ha : PAv ofl X W ow pu (e :: es) av) (hc : X.calm = true) (tk : Takes X W)
    (hdb : (c == ("__debug__" : Str)) = false := by decide) (he : starEach (e :: es) X.env = (false, eval e X.env) :: starEach es X.env := by rfl) (hpl : (backTo pos (starEach es X.env)).any (·.1) = false := by rfl) :
    PSv ofl X W ow ow ro (.Raise (some (.Call (.Name c pp) (e :: es) [] pos)) none pos') (sRaise c (mk2 f g) av) := by
  refine ⟨PS.imp (ps_raise hc tk (pmk_x (es := es) (pos := pos) F T iC tI F1 hr hb hx hg hm ha.pa hdb he hpl)) fun D σ H h => ?_⟩
  obtain ⟨Fo, G, ι, O, sd, M, s, h⟩ := h
  refine ⟨Fo, G, ι, O, sd, M, s, ?_⟩
  unfold sRaise at h
  cases z : av sd M with
  | bad => rw [z] at h; exact h
  | exc x M' =>
    rw [z] at h
    exact fun c da H' G' ι' O' sg pr s' ex => h c da σ H' G' ι' O' sg pr s' ex
  | ok ds M' =>
    rw [z] at h
    dsimp only at h
    match ds, h with
    | [], h => exact h.elim
    | [_], h => exact h.elim
    | _ :: _ :: _ :: _, h => exact h.elim
    | [d, d'], h =>
      intro vs H1 G1 ι1 O1 sg pr s1 hv _
      cases hv with
      | @cons y _ _ _ hy hv =>
        cases hv with
        | @cons y' _ _ _ hy' hv =>
          cases hv
          refine ⟨show 2 ≤ 1000 by decide, fun a na => ⟨a, C, y, y', rfl, T, t1, t2, upd_same, fun dx h1 h2 => ⟨rfl, dx, [(g, y'), (f, y)], by rw [upd_ne h2.symm, upd_same], upd_same, by rw [upd_ne h2] at h1; exact h1, ?_⟩⟩⟩
          rw [xd_heap2 (C := C) na h2]
          rw [upd_ne h2] at h1
          obtain ⟨s2, sg2, _, e2⟩ := s1.laidG (o := .xd [(g, y'), (f, y)]) h1
          exact h _ _ _ _ _ _ _ (fun b u q => sg2 b u (sg b u q)) pr s2 ⟨.inl hm, .inr ⟨dx, _, rfl, e2, .cons (hy'.mono sg2 (Pre.refl _)) (.cons (hy.mono sg2 (Pre.refl _)) .nil)⟩⟩
end
end La

set_option Elab.async false
set_option linter.all false
set_option maxRecDepth 100000
set_option maxHeartbeats 2000000
/-! LaX3: try with clauses, the caught object known from then on. -/
namespace La
open PySem PySem.Spec L2
open PyProof.Rows (AllBare)

/-! ### at the machine -/
def ends (i : Option Nat) (D : Ends) : Ends := match i with
  | none => D
  | some i => { nx := fun s H => D.nx (s.set i none) H, rt := D.rt, bk := fun s H => D.bk (s.set i none) H, ct := fun s H => D.ct (s.set i none) H }
def putI (i : Option Nat) (v : V) (σ : St) : St := match i with
  | none => σ
  | some i => σ.set i (some v)
abbrev Cl := Value × Option Nat × TS
/-- what the clauses wish of an exception -/
def wCl (K : PySem.W.Frag) (Wo : WX) (D : Ends) : List Cl → WX
  | [] => Wo
  | (c, i, ts) :: r => fun cls d σ H => ∃ b, PySem.W.exmOne K cls c = some b ∧ (b = true → ∀ a, H a = none → ts (ends i D) (putI i (.ref a) σ) (upd H a (exB a cls d))) ∧ (b = false → wCl K Wo D r cls d σ H)
/-- the clauses; the last word: may an exception get past those told -/
inductive HdT (X : Cx) : List ExceptHandler → List Cl → Bool → Prop
  | nil : HdT X [] [] true
  | stop {hds : List ExceptHandler} : HdT X hds [] false
  | only {x : Str} {c : Value} {ts : TS} {b₀ : Stmt} {suite : List Stmt} {np pos' : Pos} {hds : List ExceptHandler} {l : List Cl} {e : Bool} (hc : Names X x c)
      (hsu : ∀ (a : Addr) (pn : List (Addr × Obj)), PSs (X.suite a pn) (b₀ :: suite) ts) (r : HdT X hds l e) : HdT X (.ExceptHandler (some (.Name x np)) none (b₀ :: suite) pos' :: hds) ((c, none, ts) :: l) e
  | as {x n : Str} {i : Nat} {c : Value} {ts : TS} {b₀ : Stmt} {suite : List Stmt} {np pos' : Pos} {hds : List ExceptHandler} {l : List Cl} {e : Bool} (hc : Names X x c) (hN : X.N.Nodup) (hi : X.N[i]? = some n) (hln : X.env.kindOf n = some .local)
      (hsu : ∀ (a : Addr) (pn : List (Addr × Obj)), PSs (X.suite a pn) (b₀ :: suite) ts) (r : HdT X hds l e) : HdT X (.ExceptHandler (some (.Name x np)) (some n) (b₀ :: suite) pos' :: hds) ((c, some i, ts) :: l) e

section
variable {X : Cx} {pins : List (Addr × Obj)} {σ : St} {H : Hp} {sI s : Shared} {B : Heap} {a : Addr} {oe : Obj} {vs : Array Value} {cls : Value} {d : Option Addr}
theorem exB_ok {P : Program} {w : World} {h : Heap} {H' : Hp} (he : h.get? a = some oe) (hz : Zc cls d oe) (hd : oe.data = .fields vs) : ObjOk P w H' h a (exB a cls d) :=
  ⟨⟨oe, vs, he, hz, hd⟩, ⟨oe, he⟩, fun _ _ ⟨o, v, q, r⟩ k => ⟨o, v, k o q, r⟩⟩
/-- on the ground, and known -/
theorem inv_kept (I : Inv X pins σ H sI) (nb : ∀ b o, sI.heap.get? b = some o → b ∉ frs X.stack → B.get? b = some o) (st : B.StaysIn s.heap) (up : sI.heap.UpToSlots s.heap) (os : s.os = sI.os) (ag : AllBare s.gens)
    (na : H a = none) (ba : sI.heap.get? a = none) (he : s.heap.get? a = some oe) (hz : Zc cls d oe) (hd : oe.data = .fields vs) : Inv X pins σ (upd H a (exB a cls d)) s := by
  have hk : HOk X.prog X.w (upd H a (exB a cls d)) s.heap := ((I.inGround nb).kept st).laidN (fun _ _ q => q) na (exB_ok he hz hd)
  have ne : ∀ b o, sI.heap.get? b = some o → b ≠ a := fun b o q z => by rw [z, ba] at q; cases q
  have fr : ∀ b, b ∈ frs X.stack → ∀ o, sI.heap.get? b = some o → ∃ sl, s.heap.get? b = some { o with slots := sl } := fun b hb o q => by
    obtain ⟨_, o', q', hn⟩ := I.stack.mem hb
    have : o' = o := Option.some.inj (q'.symm.trans q)
    exact up b o q (this ▸ hn)
  refine I.call' (ch := []) os ⟨fun b o q _ hb _ => st b o (nb b o q hb), fun b o q _ hb _ => fr b hb o q, fun b o q n _ => (upd_ne (ne b o q)).trans n, fun b o q _ => ?_, fun b xs q => ?_, fun b o u q => ?_, fun b ps q => ⟨#[], ?_⟩⟩ hk ag (fun _ z => nomatch z)
  · by_cases hb : b ∈ frs X.stack
    · exact (fr b hb o q).elim fun sl z => ⟨_, z⟩
    · exact ⟨o, st b o (nb b o q hb)⟩
  · exact (upd_ne (ne_of_none q na)).trans q
  · exact (upd_ne (ne_of_none q na)).trans q
  · rw [upd_ne (ne_of_none q na), q]
    simp
/-- into a suite without pins of its own, and out -/
theorem _root_.L2.Inv.inS (I : Inv X pins σ H s) (a : Addr) : Inv (X.suite a (X.pn ++ pins)) [] σ H s :=
  ⟨I.ok.suite _ _, I.os, I.bare, I.base, I.loc, I.cell, I.free, I.freeC, fun p hp => I.pin p (by rwa [List.append_nil] at hp), I.hok, I.len⟩
theorem _root_.L2.Inv.outS {pn' : List (Addr × Obj)} (I : Inv (X.suite a (X.pn ++ pins)) pn' σ H s) (ok : X.Ok) : Inv X pins σ H s :=
  ⟨ok, I.os, I.bare, I.base, I.loc, I.cell, I.free, I.freeC, fun p hp => I.pin p (List.mem_append_left _ hp), I.hok, I.len⟩
end

section
variable {X : Cx} {body : List Stmt} {h₀ : ExceptHandler} {hds : List ExceptHandler} {l : List Cl} {e : Bool} {pos : Pos} {tb : WX → TS} {Wo : WX}
theorem ps_tryT (hs : X.stack = X.env :: X.outer) (hf : X.env.frame = some X.env.locals) (tk : Takes X Wo)
    (hb : ∀ (W : WX) (pn : List (Addr × Obj)) (xe : Value → Shared → Prop), Takes (X.tr pn xe) W → PassesOwn (model X.prog X.w) X.A X.env xe → PSs (X.tr pn xe) body (tb W))
    (hh : HdT X (h₀ :: hds) l e) : PS X (.Try body (h₀ :: hds) [] [] pos) (fun D σ H => tb (wCl X.K (if e then Wo else fun _ _ _ _ => False) D l) D σ H) := by
  refine ⟨fun pins s σ H D I h => ?_⟩
  have okX := I.ok
  have frA : X.A.frames = some (X.env :: X.outer) := by rw [okX.frames, hs]
  refine wpAny_Try_except (wpAny_mono ((hb _ (X.pn ++ pins) _ ?tk PassesOwn.looking).run [] s σ H D (I.toTry _) h) (fun f s1 hsp => ?fine) fun _ _ z => z)
  case fine =>
    cases f with
    | next => exact wpAny_execs_nil (hsp.elim fun σ1 z => z.elim fun H1 z => ⟨σ1, H1, z.1.ofTry okX, z.2⟩)
    | brk => exact hsp.elim fun σ1 z => z.elim fun H1 z => ⟨σ1, H1, z.1.ofTry okX, z.2⟩
    | cont => exact hsp.elim fun σ1 z => z.elim fun H1 z => ⟨σ1, H1, z.1.ofTry okX, z.2⟩
    | ret u =>
      obtain ⟨v, σ1, H1, J, r, q⟩ := hsp
      exact ⟨v, σ1, H1, J.ofTry okX, r, q⟩
  case tk =>
    intro u s2 xx
    obtain ⟨a, B, sI, pins2, τ, L, cls, d, rfl, J0, nb, up, sky, na, os, ag, wish⟩ := xx
    have J := J0.ofTry okX
    rw [show (X.tr (X.pn ++ pins) _).stack = X.env :: X.outer from hs] at sky
    show wpAny (model X.prog X.w) X.A (noteFrame (.ref a) X.env) _ _ _
    refine Sky.land Zc.steady frA hf sky fun h3 fl3 up3 => ?_
    have J3 := J.landed (s' := { s2 with heap := h3 }) nb fl3.1 (up.trans up3) os ag
    have apart : ∀ {h : Heap}, HandSPX.FlyingZ B (X.env :: X.outer) a (Zc cls d) h → a ∉ frs (X.env :: X.outer) := fun fl hm => by
      obtain ⟨o1, v1, e1, _, d1⟩ := fl.there
      obtain ⟨_, o2, e2, hn⟩ := fl.2.2.1.mem hm
      exact hn _ ((Option.some.inj (e1.symm.trans e2)) ▸ d1)
    have nfr := apart fl3
    have ba : sI.heap.get? a = none := by
      cases q : sI.heap.get? a with
      | none => rfl
      | some o =>
        have := nb a o q (by rw [show (X.tr (X.pn ++ pins) _).stack = X.env :: X.outer from hs]; exact nfr)
        rw [fl3.2.1] at this
        cases this
    have nL : a ≠ X.env.locals := fun z => nfr (List.mem_filterMap.mpr ⟨X.env, List.mem_cons_self, by rw [hf, z]⟩)
    have nF : a ∉ X.fs := fun hm => by
      obtain ⟨e, he, q⟩ := List.mem_filterMap.mp hm
      exact nfr (List.mem_filterMap.mpr ⟨e, List.mem_cons_of_mem _ he, q⟩)
    -- the test of a clause
    have test : ∀ {x : Str} {np : Pos} {c : Value} {b : Bool} {Q : Bool → Shared → Prop} {E : Value → Shared → Prop}, Names X x c → PySem.W.exmOne X.K cls c = some b → Q b { s2 with heap := h3 } →
        wpAny (model X.prog X.w) (X.A.mark (some (.ref a))) (eval (.Name x np) X.env) (fun v s' => wpAny (model X.prog X.w) (X.A.mark (some (.ref a))) (excMatches (.ref a) v) Q E s') E { s2 with heap := h3 } := fun {x np c b Q E} hc hm q => by
      obtain ⟨oe3, vs3, he3, hz3, hd3⟩ := fl3.there
      have ty : PySem.W.Looks (model X.prog X.w) h3 (typeOf (.ref a)) cls := fun A Q E s k q => wpAny_typeOf_ref (k _ _ he3) (by rw [hz3.1]; exact q)
      have lk := PySem.W.exm_one (M := model X.prog X.w) J3.kIn ty hm
      have S3 := J3.suite he3 hd3 na nL nF
      obtain ⟨hg, hdb, hm1 | ⟨hm1, hv, hnn⟩⟩ := hc
      · exact ld_glob S3 hg hm1 (lk.here q) hdb
      · exact ld_blt S3 hg hm1 hv (lk.here q) hnn hdb
    have go : ∀ {hds' : List ExceptHandler} {l' : List Cl} {e' : Bool}, HdT X hds' l' e' → wCl X.K (if e' then Wo else fun _ _ _ _ => False) D l' cls d τ L → wpAny (model X.prog X.w) X.A (handleBy (.ref a) X.env hds') (SP X pins D) X.xe { s2 with heap := h3 } := by
      intro hds' l' e' hk
      induction hk with
      | stop => exact fun w => w.elim
      | nil =>
        intro w
        refine wpAny_handleBy_nil ?_
        obtain ⟨_, _, _, o1, v1, T, _, _, he1, _, hd1, h11, _⟩ := id fl3
        unfold PySem.passOn
        refine wpAny_bind (wpAny_field he1 hd1 h11 ?_)
        rw [if_neg (show ¬ ((Value.ref T == Value.none) = true) from by simp)]
        have again : wpAny (model X.prog X.w) X.A (setFlight (.ref a) X.env.frame) (fun _ s4 => wpAny (model X.prog X.w) X.A (throw (.ref a) : Sem Flow) (SP X pins D) X.xe s4) X.xe { s2 with heap := h3 } := by
          rw [hf]
          exact HandSPX.setFlight_upZ fl3 fun h4 hh4 up4 => wpAny_throw (tk _ _ ⟨a, B, sI, pins, τ, L, cls, d, rfl, J, nb, (up.trans up3).trans up4, .inr (.inr (by rw [hs]; exact hh4)), na, os, ag, w⟩)
        first
          | exact wpAny_bind (wpAny_pure (wpAny_bind again))
          | exact wpAny_bind again
      | @only x c ts b₀ suite np pos' hds2 l2 e2 hc hsu r ih =>
        intro w
        obtain ⟨b, hb1, yes, no⟩ := w
        refine wpAny_handleBy_cons (codeAny_handlers_test ?_) (fun q => nomatch q)
        refine test hc hb1 ?_
        cases b with
        | false => exact ih (no rfl)
        | true =>
          refine codeAny_handlers_suite (HandSPX.lands_againZ fl3 fun h4 fl4 up4 => ?_)
          obtain ⟨o4, v4, he4, hz4, hd4⟩ := fl4.there
          have S4 := (inv_kept J (s := { s2 with heap := h4 }) nb fl4.1 ((up.trans up3).trans up4) os ag na ba he4 hz4 hd4).inS a
          refine wpAny_mono ((hsu a (X.pn ++ pins)).run [] _ _ _ _ S4 (yes rfl a na)) (fun f s6 hsp => ?_) (fun _ _ z => False.elim z)
          cases f with
          | ret u =>
            obtain ⟨v6, σ6, H6, S6, r6, q6⟩ := hsp
            exact ⟨v6, σ6, H6, S6.outS okX, r6, q6⟩
          | next => exact hsp.elim fun σ6 z => z.elim fun H6 z => ⟨σ6, H6, z.1.outS okX, z.2⟩
          | brk => exact hsp.elim fun σ6 z => z.elim fun H6 z => ⟨σ6, H6, z.1.outS okX, z.2⟩
          | cont => exact hsp.elim fun σ6 z => z.elim fun H6 z => ⟨σ6, H6, z.1.outS okX, z.2⟩
      | @as x n i c ts b₀ suite np pos' hds2 l2 e2 hc hN hi hln hsu r ih =>
        intro w
        obtain ⟨b, hb1, yes, no⟩ := w
        refine wpAny_handleBy_cons (codeAny_handlers_test ?_) (fun q => nomatch q)
        refine test hc hb1 ?_
        cases b with
        | false => exact ih (no rfl)
        | true =>
          refine codeAny_handlers_suite_as (HandSPX.lands_againZ fl3 fun h4 fl4 up4 => ?_)
          obtain ⟨o4, v4, he4, hz4, hd4⟩ := fl4.there
          have S4 := (inv_kept J (s := { s2 with heap := h4 }) nb fl4.1 ((up.trans up3).trans up4) os ag na ba he4 hz4 hd4).inS a
          refine store_ok (X := X.suite a (X.pn ++ pins)) (v := .ref a) S4 hN hi (.inl hln) rfl (fun s5 S5 => ?_) (.inr hln)
          refine wpAny_mono ((hsu a (X.pn ++ pins)).run [] s5 _ _ _ S5 (yes rfl a na)) (fun f s6 hsp => ?_) (fun _ _ z => False.elim z)
          cases f with
          | ret u =>
            obtain ⟨v6, σ6, H6, S6, r6, q6⟩ := hsp
            exact gone_ok (S6.outS okX) hN hi hln fun s7 J7 => ⟨v6, _, H6, J7, r6, q6⟩
          | next => exact hsp.elim fun σ6 z => z.elim fun H6 z => gone_ok (z.1.outS okX) hN hi hln fun s7 J7 => ⟨_, H6, J7, z.2⟩
          | brk => exact hsp.elim fun σ6 z => z.elim fun H6 z => gone_ok (z.1.outS okX) hN hi hln fun s7 J7 => ⟨_, H6, J7, z.2⟩
          | cont => exact hsp.elim fun σ6 z => z.elim fun H6 z => gone_ok (z.1.outS okX) hN hi hln fun s7 J7 => ⟨_, H6, J7, z.2⟩
    exact go hh wish
end
end La

set_option Elab.async false
set_option linter.all false
set_option maxRecDepth 100000
/-! LaX4: try by its data; what is asked of a caught exception. -/
namespace La
open PySem PySem.Spec L2

abbrev ClV := (Str → Option Bool) × Option Nat × Sv
def putD' (i : Option Nat) (d : D) (sd : Sd) : Sd := match i with
  | none => sd
  | some i => sd.set i (some d)
def clrD (i : Option Nat) (sd : Sd) : Sd := match i with
  | none => sd
  | some i => sd.set i none
def endF (i : Option Nat) : La.F → La.F
  | .nx sd M => .nx (clrD i sd) M
  | .brk sd M => .brk (clrD i sd) M
  | .cnt sd M => .cnt (clrD i sd) M
  | .ret d M => .ret d M
  | .exc _ _ _ => .bad
  | .bad => .bad
/-- the clauses by their data; e: what none of them takes flies on -/
def pick (e : Bool) : List ClV → Exn → Sd → Mem → La.F
  | [], x, sd, M => if e then .exc x sd M else .bad
  | (m, i, s) :: r, x, sd, M => match m x.cls with
    | none => .bad
    | some true => endF i (s (putD' i (.exn x.cls x.fs) sd) M)
    | some false => pick e r x sd M
def sTry (b : Sv) (l : List ClV) (e : Bool) : Sv := fun sd M => match b sd M with
  | .exc x sd' M' => pick e l x sd' M'
  | f => f

/-- a suite's wish: nothing gets out -/
abbrev W0 : WX := fun _ _ _ _ => False
inductive HdV (ofl : Str → Str → Bool) (X : Cx) (ow : List Nat) (ro : Bool) : List ExceptHandler → List ClV → Bool → Prop
  | nil : HdV ofl X ow ro [] [] true
  | stop {hds : List ExceptHandler} : HdV ofl X ow ro hds [] false
  | only {x : Str} {c : Value} {m : Str → Option Bool} {sv : Sv} {b₀ : Stmt} {suite : List Stmt} {np pos' : Pos} {hds : List ExceptHandler} {l : List ClV} {e : Bool} (hc : Names X x c) (hm : ∀ n b cv, m n = some b → ClR X.mg n cv → PySem.W.exmOne X.K cv c = some b)
      (hsu : ∀ (a : Addr) (pn : List (Addr × Obj)), PBv ofl (X.suite a pn) W0 ow ow ro (b₀ :: suite) sv) (r : HdV ofl X ow ro hds l e) : HdV ofl X ow ro (.ExceptHandler (some (.Name x np)) none (b₀ :: suite) pos' :: hds) ((m, none, sv) :: l) e
  | as {x n : Str} {i : Nat} {c : Value} {m : Str → Option Bool} {sv : Sv} {b₀ : Stmt} {suite : List Stmt} {np pos' : Pos} {hds : List ExceptHandler} {l : List ClV} {e : Bool} (hc : Names X x c) (hm : ∀ n b cv, m n = some b → ClR X.mg n cv → PySem.W.exmOne X.K cv c = some b)
      (hN : X.N.Nodup) (hi : X.N[i]? = some n) (hln : X.env.kindOf n = some .local) (ho : i ∉ ow)
      (hsu : ∀ (a : Addr) (pn : List (Addr × Obj)), PBv ofl (X.suite a pn) W0 ow ow ro (b₀ :: suite) sv) (r : HdV ofl X ow ro hds l e) : HdV ofl X ow ro (.ExceptHandler (some (.Name x np)) (some n) (b₀ :: suite) pos' :: hds) ((m, some i, sv) :: l) e

section
variable {ofl : Str → Str → Bool} {X : Cx} {W : WX} {ow : List Nat} {ro : Bool}
theorem IsD.exc {K : PySem.W.Frag} {mg : Str → Option Value} {G : Hp} {ι : List Addr} {H : Hp} {x : Exn} {c : Value} {da : Option Addr} {a : Addr} (ex : ExR K mg G ι H x c da) (e : G a = some (exB a c da)) : IsD K mg G ι (.ref a) (.exn x.cls x.fs) := by
  obtain ⟨h1, h2⟩ := ex
  rcases h2 with ⟨h2, rfl⟩ | ⟨d, vs, rfl, h2, h3⟩
  · rw [h2]
    exact .exn e h1
  · exact .exf e h1 h2 h3
theorem ExR.mono {K : PySem.W.Frag} {mg : Str → Option Value} {G G' : Hp} {ι ι' : List Addr} {H H' : Hp} {x : Exn} {c : Value} {da : Option Addr} (ex : ExR K mg G ι H x c da) (sg : Same G G') (pr : Pre ι ι') : ExR K mg G' ι' H' x c da := by
  obtain ⟨h1, h2⟩ := ex
  refine ⟨h1, h2.imp id fun ⟨d, vs, e1, e2, e3⟩ => ⟨d, vs, e1, sg _ _ e2, e3.mono sg pr⟩⟩
/-- a suite, entered -/
theorem suite_go {i : Option Nat} {sv : Sv} {x : Exn} {sd : Sd} {M : Mem} {F G : Hp} {ι : List Addr} {O : Addr → Option Own} {σ : St} {H : Hp} {c : Value} {da : Option Addr} {E : Ends} {a : Addr} (ho : ∀ j, i = some j → j ∉ ow) (s : SR X.K X.mg ofl ow F G ι O σ sd M H) (ex : ExR X.K X.mg G ι H x c da) (na : H a = none)
    (h : SPo X.K X.mg ofl W ow ow ro F G ι E (endF i (sv (putD' i (.exn x.cls x.fs) sd) M))) : tsv X.K X.mg ofl W0 ow ow ro sv (ends i E) (putI i (.ref a) σ) (upd H a (exB a c da)) := by
  obtain ⟨s2, sg2, _, e2⟩ := s.laidG (o := exB a c da) na
  have hd := IsD.exc (ex.mono (H' := upd H a (exB a c da)) sg2 (Pre.refl ι)) e2
  have h' := SPo.up h sg2 (Pre.refl ι)
  have s3 : SR X.K X.mg ofl ow F (upd G a (exB a c da)) ι O (putI i (.ref a) σ) (putD' i (.exn x.cls x.fs) sd) M (upd H a (exB a c da)) := by
    cases i with
    | none => exact s2
    | some j => exact s2.set (ho j rfl) hd
  refine ⟨F, _, ι, O, _, M, s3, ?_⟩
  cases z : sv (putD' i (.exn x.cls x.fs) sd) M with
  | bad => rw [z] at h'; exact h'
  | exc y sd' M' => rw [z] at h'; exact h'.elim
  | ret d M' =>
    rw [z] at h'
    cases i <;> exact h'
  | nx sd' M' =>
    rw [z] at h'
    cases i with
    | none => exact h'
    | some j => exact fun σ' H' G' ι' O' a b s => h' _ H' G' ι' O' a b (s.clr j)
  | brk sd' M' =>
    rw [z] at h'
    cases i with
    | none => exact h'
    | some j => exact fun σ' H' G' ι' O' a b s => h' _ H' G' ι' O' a b (s.clr j)
  | cnt sd' M' =>
    rw [z] at h'
    cases i with
    | none => exact h'
    | some j => exact fun σ' H' G' ι' O' a b s => h' _ H' G' ι' O' a b (s.clr j)
theorem HdV.to {hds : List ExceptHandler} {l : List ClV} {e : Bool} (hv : HdV ofl X ow ro hds l e) : ∃ lt, HdT X hds lt e ∧ ∀ (E : Ends) (x : Exn) (sd : Sd) (M : Mem) (F G : Hp) (ι : List Addr) (O : Addr → Option Own) (σ : St) (H : Hp) (c : Value) (da : Option Addr),
    SR X.K X.mg ofl ow F G ι O σ sd M H → ExR X.K X.mg G ι H x c da → SPo X.K X.mg ofl W ow ow ro F G ι E (pick e l x sd M) → wCl X.K (if e then W else fun _ _ _ _ => False) E lt c da σ H := by
  induction hv with
  | nil => exact ⟨[], .nil, fun E x sd M F G ι O σ H c da s ex h => h c da σ H G ι O (Same.refl G) (Pre.refl ι) s ex⟩
  | stop => exact ⟨[], .stop, fun E x sd M F G ι O σ H c da s ex h => h⟩
  | @only x c m sv b₀ suite np pos' hds l e hc hm hsu r ih =>
    obtain ⟨lt, h1, h2⟩ := ih
    refine ⟨_, .only (ts := tsv X.K X.mg ofl W0 ow ow ro sv) hc (fun a pn => (hsu a pn).ps) h1, fun E x sd M F G ι O σ H c da s ex h => ?_⟩
    unfold pick at h
    cases z : m x.cls with
    | none => rw [z] at h; exact h.elim
    | some b =>
      rw [z] at h
      refine ⟨b, hm _ _ _ z ex.1, fun hb a na => ?_, fun hb => ?_⟩
      · subst hb
        exact suite_go (i := none) (fun j q => nomatch q) s ex na h
      · subst hb
        exact h2 E x sd M F G ι O σ H c da s ex h
  | @as x n i c m sv b₀ suite np pos' hds l e hc hm hN hi hln ho hsu r ih =>
    obtain ⟨lt, h1, h2⟩ := ih
    refine ⟨_, .as (ts := tsv X.K X.mg ofl W0 ow ow ro sv) hc hN hi hln (fun a pn => (hsu a pn).ps) h1, fun E x sd M F G ι O σ H c da s ex h => ?_⟩
    unfold pick at h
    cases z : m x.cls with
    | none => rw [z] at h; exact h.elim
    | some b =>
      rw [z] at h
      refine ⟨b, hm _ _ _ z ex.1, fun hb a na => ?_, fun hb => ?_⟩
      · subst hb
        exact suite_go (i := some i) (fun j q => by cases q; exact ho) s ex na h
      · subst hb
        exact h2 E x sd M F G ι O σ H c da s ex h
/-- try: body / except ..: -/
theorem psv_try {body : List Stmt} {h₀ : ExceptHandler} {hds : List ExceptHandler} {l : List ClV} {e : Bool} {bv : Sv} {pos : Pos} (hs : X.stack = X.env :: X.outer) (hf : X.env.frame = some X.env.locals) (tk : Takes X W)
    (hb : ∀ (W : WX) (pn : List (Addr × Obj)) (xe : Value → Shared → Prop), Takes (X.tr pn xe) W → PassesOwn (model X.prog X.w) X.A X.env xe → PBv ofl (X.tr pn xe) W ow ow ro body bv)
    (hh : HdV ofl X ow ro (h₀ :: hds) l e) : PSv ofl X W ow ow ro (.Try body (h₀ :: hds) [] [] pos) (sTry bv l e) := by
  obtain ⟨lt, h1, h2⟩ := hh.to (W := W)
  refine ⟨PS.imp (ps_tryT (tb := fun W => tsv X.K X.mg ofl W ow ow ro bv) hs hf tk (fun W pn xe a b => (hb W pn xe a b).ps) h1) fun E σ H q => ?_⟩
  obtain ⟨F, G, ι, O, sd, M, s, q⟩ := q
  refine ⟨F, G, ι, O, sd, M, s, ?_⟩
  unfold sTry at q
  cases z : bv sd M with
  | exc x sd' M' =>
    rw [z] at q
    exact fun c da σ' H' G' ι' O' a b s' ex => h2 E x sd' M' F G' ι' O' σ' H' c da s' ex (SPo.up q a b)
  | bad => rw [z] at q; exact q
  | nx sd' M' => rw [z] at q; exact q
  | ret d M' => rw [z] at q; exact q
  | brk sd' M' => rw [z] at q; exact q
  | cnt sd' M' => rw [z] at q; exact q
end

/-! ### what is asked of it -/
def lookF (f : Str) : List (Str × D) → Option D
  | [] => none
  | (g, d) :: r => if f = g then some d else lookF f r
theorem IsFs.look {K : PySem.W.Frag} {mg : Str → Option Value} {G : Hp} {ι : List Addr} {f : Str} : ∀ {vs : List (Str × V)} {fs : List (Str × D)} {d : D}, IsFs K mg G ι vs fs → lookF f fs = some d → ∃ v, vs.lookup f = some v ∧ IsD K mg G ι v d
  | _, _, _, .nil, e => by cases e
  | _, _, _, .cons (k := k) (v := v) h r, e => by
    rw [lookF] at e
    rw [lookup_put]
    split at e
    · rename_i q
      cases e
      rw [if_pos q]
      exact ⟨v, rfl, h⟩
    · rename_i q
      rw [if_neg q]
      exact r.look e
/-- the field f of a caught exception -/
def dXf (f : Str) : D → Option D
  | .exn _ fs => lookF f fs
  | _ => none
/-- .. of an exception of one of the classes cs -/
def dXfs (cs : List Str) (f : Str) (d : D) : Option D := match d with
  | .exn c fs => if c ∈ cs then lookF f fs else none
  | _ => none
structure XkC (K : PySem.W.Frag) (C : Addr) : Prop where
  x : XfC K C
  ha : PySem.W.findIn K (.ref C) "__class__" = some (some (.builtin "object.__class__"))
  hn : PySem.W.specialIn K (.builtin "object.__class__") "__get__" = some (some (.builtin "getset_descriptor.__get__"))
  ht : PySem.W.takesIn K (.builtin "object.__class__") = some true
  hm : PySem.W.mroIn K C (.type "object") = some true
def tXk (K : PySem.W.Frag) (f : Str) (te : TE) : TE := fun σ H Q => te σ H fun x H1 => ∃ (a C dd : Addr) (fs : List (Str × V)) (v : V), x = .ref a ∧ XfC K C ∧ PySem.W.findIn K (.ref C) f = some none ∧ H1 a = some (exB a (.ref C) (some dd)) ∧ H1 dd = some (.xd fs) ∧ fs.lookup f = some v ∧ Q v H1
section
variable {ofl : Str → Str → Bool} {X : Cx} {W : WX} {ow : List Nat} {p : Bool} {ka : Kd} {e : Expr} {ev : Ev} {f : Str} {pos : Pos}
theorem exB_at {P : Program} {w : World} {h : Heap} {H : Hp} {a : Addr} {cv : Value} {da : Option Addr} (hok : HOk P w H h) (e : H a = some (exB a cv da)) : ∃ (oe : Obj) (vs : Array Value), h.get? a = some oe ∧ Zc cv da oe ∧ oe.data = .fields vs := by
  have x : ObjOk P w H h a (.ext fun h => ∃ (oe : Obj) (vs : Array Value), h.get? a = some oe ∧ Zc cv da oe ∧ oe.data = .fields vs) := hok a _ e
  exact x.1
theorem pe_xk {te : TE} (he : PE X e te) (hb : attributeBase e f X.env (eval e X.env) = eval e X.env := by rfl) : PE X (.Attribute e f pos) (tXk X.K f te) := by
  refine ⟨fun pins s σ H Q I h => attr_of hb (thn (he.run pins s σ H _ I h) fun u s1 z => ?_)⟩
  obtain ⟨x, H1, I1, rx, a, C, dd, fs, v, ex, T, hno, ea, ed, l, q⟩ := z
  subst ex
  obtain rfl : u = Value.ref a := rx
  obtain ⟨oe, vs, ha, hz, hd⟩ := exB_at I1.hok ea
  have hx : ObjOk X.prog X.w H1 s1.heap dd (.xd fs) := I1.hok dd _ ed
  obtain ⟨mA, hns, hr⟩ := hx
  obtain ⟨od, ho, hl⟩ := lookIn_ns hns
  obtain ⟨u, hu, ru⟩ := RelO.some_of (v := v) (o := mA f) (by rw [← l]; exact hr f)
  have J : PySem.W.InstAt s1.heap a oe C (some od) := ⟨ha, hz.1, by unfold PySem.W.notCls; rw [hd] <;> rfl, by rw [hz.2]; exact ho⟩
  exact HandSPX.exc_get I1.kIn J T.ga T.gg T.exC (PySem.W.findObj_own T.hdC hno rfl (by rw [hl, hu])) (handed_of ru) ⟨v, H1, I1.tok _, ru, q⟩
/-- e.f, e a caught exception; hX: of what classes it may be -/
theorem pev_xf {cs : List Str} (hX : ∀ n ∈ cs, ∃ C, X.mg n = some (.ref C) ∧ XfC X.K C ∧ PySem.W.findIn X.K (.ref C) f = some none)
    (ha : PEv ofl X W ow p ka e ev) (hb : attributeBase e f X.env (eval e X.env) = eval e X.env := by rfl) :
    PEv ofl X W ow p .dat (.Attribute e f pos) (eUn (dXfs cs f) ev) := by
  refine pev_un (r := fun x H1 Q => ∃ (a C dd : Addr) (fs : List (Str × V)) (v : V), x = .ref a ∧ XfC X.K C ∧ PySem.W.findIn X.K (.ref C) f = some none ∧ H1 a = some (exB a (.ref C) (some dd)) ∧ H1 dd = some (.xd fs) ∧ fs.lookup f = some v ∧ Q v H1) ?_ (fun ta h => pe_xk h hb) ha
  intro F G ι O ow σ sd M H x d z Q s hx hz k
  cases d with
  | exn c fs =>
    have hz : (if c ∈ cs then lookF f fs else none) = some z := hz
    split at hz
    · rename_i hc
      obtain ⟨C, hC, T, hno⟩ := hX c hc
      rcases hx with h | ⟨_, _, h⟩
      · cases h with
        | exn => cases hz
        | @exf a da _ cv vs _ h1 h2 h3 h4 =>
          obtain ⟨v, l, hv⟩ := h4.look hz
          have ecv : cv = .ref C := by
            rcases h2 with h2 | ⟨h2, _⟩
            · rw [hC] at h2
              exact (Option.some.inj h2).symm
            · rw [hC] at h2; cases h2
          subst ecv
          exact ⟨a, C, da, vs, v, rfl, T, hno, s.wd.g _ _ h1, s.wd.g _ _ h3, l, k v H G (Same.refl G) (Same.refl H) s hv⟩
      · exact h.elim
    · cases hz
  | _ => cases hz

/-! isinstance -/
def rIsX (K : PySem.W.Frag) : List V → Hp → VK → Prop := fun xs H Q => ∃ (x c : V) (u : Value) (b : Bool), xs = [x, c] ∧ ClsV c u ∧ Q (.bl b) H ∧
  ((∃ t, TyX K H x t ∧ PySem.W.kitOne K t u = some b) ∨ ∃ (a C : Addr) (da : Option Addr), x = .ref a ∧ H a = some (exB a (.ref C) da) ∧ (∀ d, da = some d → ∃ fs, H d = some (.xd fs)) ∧ XkC K C ∧ PySem.W.kitOne K (.ref C) u = some b)
theorem call_isX : CallR X (.builtin "isinstance") (rIsX X.K) := by
  intro pins s σ H xs us Q I r h
  obtain ⟨x, c, u, b, rfl, k, q, h⟩ := h
  obtain ⟨u1, u2, rfl, r1, r2⟩ := vals2 r
  have e2 := k.eq r2
  subst e2
  rcases h with ⟨t, ty, e⟩ | ⟨a, C, da, rfl, ea, ed, T, e⟩
  · obtain ⟨P, Z, p, hx⟩ := kit_of I r1 ty
    exact PySem.W.kia_one Z I.kIn p e hx fun tk => ⟨.bl b, H, I.tok tk, rfl, q⟩
  · cases (show u1 = Value.ref a from r1)
    obtain ⟨oe, vs, ha, hz, hd⟩ := exB_at I.hok ea
    have J : ∃ od, PySem.W.InstAt s.heap a oe C od := by
      cases da with
      | none => exact ⟨none, ha, hz.1, by unfold PySem.W.notCls; rw [hd] <;> rfl, by rw [hz.2]; trivial⟩
      | some d =>
        obtain ⟨fs, ed⟩ := ed d rfl
        have hx : ObjOk X.prog X.w H s.heap d (.xd fs) := I.hok d _ ed
        obtain ⟨mA, hns, hr⟩ := hx
        obtain ⟨od, ho, hl⟩ := lookIn_ns hns
        exact ⟨some od, ha, hz.1, by unfold PySem.W.notCls; rw [hd] <;> rfl, by rw [hz.2]; exact ho⟩
    obtain ⟨od, J⟩ := J
    have cl : (PySem.W.clsIn X.K C).isSome = true := by
      obtain ⟨cd, hc, _⟩ := PySem.W.any_some T.x.hdC
      rw [hc]; rfl
    exact PySem.W.kia_one (PySem.W.kitx_exc cl T.x.ga T.x.gg T.x.exC T.ha T.hn T.ht T.hm) I.kIn J e (fun z => nomatch z) fun tk => ⟨.bl b, H, I.tok tk, rfl, q⟩
def dIsX (m : Str → Option Bool) (f : String → Bool) : D → Option D
  | .exn c _ => (m c).map .bl
  | d => (dTy d).map fun a => .bl (f a)
theorem okIsX {m : Str → Option Bool} {f : String → Bool} {c : V} {u : Value} (hc : ClsV c u) (hf : ∀ a ∈ ["NoneType", "bool", "int", "str", "tuple", "list", "dict"], PySem.W.kitOne X.K (.type a) u = some (f a))
    (hm : ∀ n b cv, m n = some b → ClR X.mg n cv → ∃ C, cv = .ref C ∧ XkC X.K C ∧ PySem.W.kitOne X.K (.ref C) u = some b) : UnOK ofl X (dIsX m f) (fun x H Q => rIsX X.K [x, c] H Q) := by
  intro F G ι O ow σ sd M H x d z Q s hx hz k
  have base : ∀ (e : (dTy d).map (fun a => D.bl (f a)) = some z), rIsX X.K [x, c] H Q := fun e => by
    obtain ⟨a, e2, rfl⟩ := Option.map_eq_some_iff.mp e
    have ha : a ∈ ["NoneType", "bool", "int", "str", "tuple", "list", "dict"] := by
      clear e hz
      cases d <;> cases e2 <;> simp
    exact ⟨x, c, u, f a, rfl, hc, k _ H G (Same.refl G) (Same.refl H) s (.bl _), .inl ⟨_, dTy_of s.wd.g hx e2, hf a ha⟩⟩
  cases d with
  | exn n fs =>
    obtain ⟨b, e, rfl⟩ := Option.map_eq_some_iff.mp (show (m n).map D.bl = some z from hz)
    rcases hx with h | ⟨_, _, h⟩
    · refine ⟨x, c, u, b, rfl, hc, k _ H G (Same.refl G) (Same.refl H) s (.bl _), .inr ?_⟩
      cases h with
      | @exn a _ cv h1 h2 =>
        obtain ⟨C, rfl, T, h3⟩ := hm n b cv e h2
        exact ⟨a, C, none, rfl, s.wd.g _ _ h1, (fun d q => nomatch q), T, h3⟩
      | @exf a da _ cv vs _ h1 h2 h3 h4 =>
        obtain ⟨C, rfl, T, h5⟩ := hm n b cv e h2
        exact ⟨a, C, some da, rfl, s.wd.g _ _ h1, (fun d q => by cases q; exact ⟨vs, s.wd.g _ _ h3⟩), T, h5⟩
    · exact h.elim
  | _ => exact base hz
theorem pev_isx {m : Str → Option Bool} {g : String → Bool} {x y : Str} {c : V} {u : Value} {pp py pos : Pos} (hg : Gl X x) (hm : X.mg x = none) (hv : bootBuiltins x = some (.builtin "isinstance")) (hy : PE X (.Name y py) (tC c)) (hc : ClsV c u)
    (hf : ∀ a ∈ ["NoneType", "bool", "int", "str", "tuple", "list", "dict"], PySem.W.kitOne X.K (.type a) u = some (g a)) (hx : ∀ n b cv, m n = some b → ClR X.mg n cv → ∃ C, cv = .ref C ∧ XkC X.K C ∧ PySem.W.kitOne X.K (.ref C) u = some b)
    (ha : PEv ofl X W ow p ka e ev) (hn : x ≠ "__name__" := by decide) (hd : (x == ("__debug__" : Str)) = false := by decide)
    (hs : starEach [e, .Name y py] X.env = (false, eval e X.env) :: starEach [.Name y py] X.env := by rfl) (hs2 : starEach [.Name y py] X.env = (false, eval (.Name y py) X.env) :: starEach [] X.env := by rfl)
    (hpl : (backTo pos (starEach [.Name y py] X.env)).any (·.1) = false := by rfl) :
    PEv ofl X W ow p .dat (.Call (.Name x pp) [e, .Name y py] [] pos) (eUn (dIsX m g) ev) :=
  pev_un (okIsX hc hf hx) (fun ta h => pe_callB call_isX hg hm hv (pa_cons h (pa_cons hy pa_nil hs2) hs) hn hd hs hpl) ha
end
end La

set_option Elab.async false
set_option linter.all false
set_option maxRecDepth 100000
/-! LaC1: instances: fields, what stands in them, methods, making. -/
namespace La
open PySem PySem.Spec L2

def putFd (f : Str) (d : D) : List (Str × D) → List (Str × D)
  | [] => [(f, d)]
  | (g, x) :: r => if g = f then (g, d) :: r else (g, x) :: putFd f d r
/-- the instance of the class c -/
def getO (c : Str) (M : Mem) (d : D) : Option (Nat × List (Str × D)) := match d with
  | .obj l => match M[l]? with
    | some (.ins c' fs) => if c' = c then some (l, fs) else none
    | _ => none
  | _ => none
theorem getO_some {c : Str} {M : Mem} {d : D} {l : Nat} {fs : List (Str × D)} (h : getO c M d = some (l, fs)) : d = .obj l ∧ M[l]? = some (.ins c fs) := by
  cases d with
  | obj j =>
    unfold getO at h
    dsimp only at h
    cases z : M[j]? with
    | none => rw [z] at h; cases h
    | some m =>
      rw [z] at h
      cases m with
      | ins c' gs =>
        dsimp only at h
        split at h
        · rename_i q
          cases h
          exact ⟨rfl, by rw [← q]; exact z⟩
        · cases h
      | _ => cases h
  | _ => cases h
theorem getO_of {c : Str} {M : Mem} {l : Nat} {fs : List (Str × D)} (h : M[l]? = some (.ins c fs)) : getO c M (.obj l) = some (l, fs) := by
  simp [getO, h]

section
variable {K : PySem.W.Frag} {mg : Str → Option Value} {ofl : Str → Str → Bool} {F G : Hp} {ι : List Addr} {O : Addr → Option Own} {M : Mem} {H : Hp} {ow : List Nat} {σ : St} {sd : Sd} {l : Nat} {c f : Str}
theorem fl_look : ∀ {vs : List (Str × V)} {fs : List (Str × D)}, Paired (FlR K mg ofl G ι O H l c) vs fs → (lookF f fs = none ∧ vs.lookup f = none) ∨ ∃ v d, lookF f fs = some d ∧ vs.lookup f = some v ∧ FlR K mg ofl G ι O H l c (f, v) (f, d)
  | _, _, .nil => .inl ⟨rfl, rfl⟩
  | (g, v) :: vs, (g', d) :: fs, .cons r t => by
    obtain ⟨e, h⟩ := r
    dsimp only at e
    subst e
    rw [lookF, lookup_put]
    by_cases q : f = g
    · subst q
      rw [if_pos rfl, if_pos rfl]
      exact .inr ⟨v, d, rfl, rfl, rfl, h⟩
    · rw [if_neg q, if_neg q]
      exact fl_look t
theorem fl_put {v : V} {d : D} (h : FlR K mg ofl G ι O H l c (f, v) (f, d)) : ∀ {vs : List (Str × V)} {fs : List (Str × D)}, Paired (FlR K mg ofl G ι O H l c) vs fs → Paired (FlR K mg ofl G ι O H l c) (putF f v vs) (putFd f d fs)
  | _, _, .nil => .cons h .nil
  | (g, w) :: vs, (g', e) :: fs, .cons r t => by
    have q : g = g' := r.1
    subst q
    rw [putF, putFd]
    by_cases q : g = f
    · subst q
      rw [if_pos rfl, if_pos rfl]
      exact .cons h t
    · rw [if_neg q, if_neg q]
      exact .cons r (fl_put h t)
theorem putFd_map (f : Str) (d : D) : ∀ fs : List (Str × D), (putFd f d fs).map (·.1) = if f ∈ fs.map (·.1) then fs.map (·.1) else fs.map (·.1) ++ [f]
  | [] => rfl
  | (g, x) :: r => by
    rw [putFd]
    by_cases q : g = f
    · subst q
      rw [if_pos rfl, if_pos (by simp)]
      rfl
    · rw [if_neg q, List.map_cons, putFd_map f d r, List.map_cons]
      have q' : ¬ f = g := fun z => q z.symm
      by_cases z : f ∈ r.map (·.1)
      · rw [if_pos z, if_pos (List.mem_cons_of_mem _ z)]
      · rw [if_neg z, if_neg (fun y => (List.mem_cons.mp y).elim q' z)]
        rfl
theorem putFd_nodup {f : Str} {d : D} {fs : List (Str × D)} (h : (fs.map (·.1)).Nodup) : ((putFd f d fs).map (·.1)).Nodup := by
  rw [putFd_map]
  split
  · exact h
  · rename_i z
    exact List.nodup_append.mpr ⟨h, by simp, fun a ha b hb => by
      rw [List.mem_singleton] at hb
      subst hb
      exact fun q => z (q ▸ ha)⟩
/-- an instance in the memory -/
theorem SR.ins (s : SR K mg ofl ow F G ι O σ sd M H) {fs : List (Str × D)} (h : M[l]? = some (.ins c fs)) : ∃ a C dx vs, ι[l]? = some a ∧ O a = some (.obj l) ∧ mg c = some (.ref C) ∧ H a = some (.ins C dx vs) ∧ Paired (FlR K mg ofl G ι O H l c) vs fs ∧ (fs.map (·.1)).Nodup := by
  obtain ⟨a, h1, h2, C, dx, vs, h3, h4, h5, h6⟩ := s.wd.at_ l _ h
  exact ⟨a, C, dx, vs, h1, h2, h3, h4, h5, h6⟩
/-- a field is set -/
theorem SR.putI (s : SR K mg ofl ow F G ι O σ sd M H) {fs fs' : List (Str × D)} {a C dx : Addr} {vs vs' : List (Str × V)} (h : M[l]? = some (.ins c fs)) (ha : ι[l]? = some a) (ho : O a = some (.obj l)) (hc : mg c = some (.ref C)) (hh : H a = some (.ins C dx vs))
    (hp : Paired (FlR K mg ofl G ι O H l c) vs' fs') (hn : (fs'.map (·.1)).Nodup) : SR K mg ofl ow F G ι O σ sd (M.set l (.ins c fs')) (upd H a (.ins C dx vs')) := by
  obtain ⟨g1, g2, g3⟩ := s.wd.og a (by rw [ho]; simp)
  refine ⟨⟨Same.put s.wd.g g1, Same.put s.wd.f g2, fun b e => ?_, s.wd.gf, by rw [List.length_set]; exact s.wd.len, fun j u e => ?_⟩, s.sl.mono (Same.refl G) (Pre.refl ι) fun b i _ e => ⟨e, upd_ne fun z => by rw [z, ho] at e; cases e⟩⟩
  · obtain ⟨e1, e2, e3⟩ := s.wd.og b e
    refine ⟨e1, e2, ?_⟩
    by_cases q : b = a
    · rw [q, upd_same]; simp
    · rw [upd_ne q]; exact e3
  · by_cases q : l = j
    · subst q
      have hlt : l < M.length := (List.getElem?_eq_some_iff.mp h).1
      rw [List.getElem?_set_self hlt] at e
      cases e
      exact ⟨a, ha, ho, C, dx, vs', hc, upd_same, Paired.mapP hp fun p q z => z.mono (Same.refl G) (Pre.refl ι) fun b' f e' => ⟨e', upd_ne fun z => by rw [z, ho] at e'; cases e'⟩, hn⟩
    · rw [List.getElem?_set_ne q] at e
      obtain ⟨a2, f1, f2, f3⟩ := s.wd.at_ j u e
      exact ⟨a2, f1, f2, f3.mono (Same.refl G) (Pre.refl ι) (upd_ne fun z => by rw [z, ho] at f2; cases f2; exact q rfl) fun b' f e' => ⟨e', upd_ne fun z => by rw [z, ho] at e'; cases e'⟩⟩
/-- a thing of one's own becomes a field's -/
theorem SR.giveF (s : SR K mg ofl ow F G ι O σ sd M H) {b : Addr} (hb : O b = some .tmp) : SR K mg ofl ow F G ι (updO O b (some (.fld l f))) σ sd M H := by
  refine s.go (Same.refl G) s.wd.g s.wd.f (fun a e => ?_) s.wd.gf fun a o e n => ⟨?_, rfl⟩
  · by_cases q : a = b
    · subst q
      exact s.wd.og a (by rw [hb]; simp)
    · rw [updO_ne q] at e
      exact s.wd.og a e
  · rw [updO_ne (fun q => n (by rw [q, hb] at e; cases e; rfl))]
    exact e
/-- one thing of a field is changed: the other fields stay -/
theorem fl_keep {b : Addr} {o : HO} (hb : O b = some (.fld l f)) {p : Str × V} {q : Str × D} (ne : q.1 ≠ f) (z : FlR K mg ofl G ι O H l c p q) : FlR K mg ofl G ι O (upd H b o) l c p q := by
  obtain ⟨z1, z2⟩ := z
  refine ⟨z1, ?_⟩
  split at z2
  · rename_i hh
    rw [if_pos hh]
    obtain ⟨b2, y1, y2, y3⟩ := z2
    refine ⟨b2, y1, y2, y3.mono (Same.refl G) (Pre.refl ι) (upd_ne fun x => ?_)⟩
    rw [x, hb] at y2
    cases y2
    exact ne rfl
  · rename_i hh
    rw [if_neg hh]
    exact z2
theorem fl_new {b : Addr} {o : HO} {d' : D} (hb : O b = some (.fld l f)) (hf : ofl c f = true) (cn : Cn K mg G ι (upd H b o) b d') : ∀ {vs : List (Str × V)} {fs : List (Str × D)}, Paired (FlR K mg ofl G ι O H l c) vs fs → (fs.map (·.1)).Nodup → vs.lookup f = some (.ref b) →
    Paired (FlR K mg ofl G ι O (upd H b o) l c) vs (putFd f d' fs)
  | _, _, .nil, _, e => by cases e
  | (g, w) :: vs, (g', e) :: fs, .cons r t, nd, lk => by
    have eg : g = g' := r.1
    subst eg
    rw [lookup_put] at lk
    rw [putFd]
    obtain ⟨nd1, nd2⟩ := List.nodup_cons.mp nd
    by_cases q : g = f
    · subst q
      rw [if_pos rfl] at lk
      cases lk
      rw [if_pos rfl]
      refine .cons ⟨rfl, by rw [if_pos hf]; exact ⟨b, rfl, hb, cn⟩⟩ ?_
      have key : ∀ {vs : List (Str × V)} {fs : List (Str × D)}, Paired (FlR K mg ofl G ι O H l c) vs fs → g ∉ fs.map (·.1) → Paired (FlR K mg ofl G ι O (upd H b o) l c) vs fs := by
        intro vs fs pr
        induction pr with
        | nil => intro _; exact .nil
        | cons r t ih =>
          intro ng
          rw [List.map_cons, List.mem_cons, not_or] at ng
          exact .cons (fl_keep hb (fun z => ng.1 z.symm) r) (ih ng.2)
      exact key t nd1
    · rw [if_neg (fun x => q x.symm)] at lk
      rw [if_neg q]
      exact .cons (fl_keep hb q r) (fl_new hb hf cn t nd2 lk)
/-- what stands in a field is changed -/
theorem SR.wfld (s : SR K mg ofl ow F G ι O σ sd M H) {fs : List (Str × D)} {d : D} (h : M[l]? = some (.ins c fs)) (hl : lookF f fs = some d) (hf : ofl c f = true) : ∃ a C dx vs b, ι[l]? = some a ∧ mg c = some (.ref C) ∧ H a = some (.ins C dx vs) ∧ vs.lookup f = some (.ref b) ∧ Cn K mg G ι H b d ∧
    ∀ (o : HO) (d' : D), Cn K mg G ι (upd H b o) b d' → SR K mg ofl ow F G ι O σ sd (M.set l (.ins c (putFd f d' fs))) (upd H b o) := by
  obtain ⟨a, C, dx, vs, h1, h2, h3, h4, h5, h6⟩ := s.ins h
  rcases fl_look (f := f) h5 with ⟨z, _⟩ | ⟨v, d2, e1, e2, e3, e4⟩
  · rw [hl] at z; cases z
  · rw [hl] at e1
    cases e1
    rw [if_pos hf] at e4
    obtain ⟨b, e5, e6, e7⟩ := e4
    dsimp only at e5
    subst e5
    obtain ⟨g1, g2, g3⟩ := s.wd.og b (by rw [e6]; simp)
    have hab : a ≠ b := fun z => by rw [z, e6] at h2; cases h2
    refine ⟨a, C, dx, vs, b, h1, h3, h4, e2, e7, fun o d' cn => ⟨⟨Same.put s.wd.g g1, Same.put s.wd.f g2, fun b' e => ?_, s.wd.gf, by rw [List.length_set]; exact s.wd.len, fun j u e => ?_⟩, s.sl.mono (Same.refl G) (Pre.refl ι) fun b' i _ e => ⟨e, upd_ne fun z => by rw [z, e6] at e; cases e⟩⟩⟩
    · obtain ⟨e1, e2, e3⟩ := s.wd.og b' e
      refine ⟨e1, e2, ?_⟩
      by_cases q : b' = b
      · rw [q, upd_same]; simp
      · rw [upd_ne q]; exact e3
    · by_cases q : l = j
      · subst q
        have hlt : l < M.length := (List.getElem?_eq_some_iff.mp h).1
        rw [List.getElem?_set_self hlt] at e
        cases e
        exact ⟨a, h1, h2, C, dx, vs, h3, (upd_ne hab).trans h4, fl_new e6 hf cn h5 h6 e2, putFd_nodup h6⟩
      · rw [List.getElem?_set_ne q] at e
        obtain ⟨a2, f1, f2, f3⟩ := s.wd.at_ j u e
        exact ⟨a2, f1, f2, f3.mono (Same.refl G) (Pre.refl ι) (upd_ne fun z => by rw [z, e6] at f2; cases f2) fun b' f' e' => ⟨e', upd_ne fun z => by rw [z, e6] at e'; cases e'; exact q rfl⟩⟩
/-- a new instance -/
theorem SR.laidI (s : SR K mg ofl ow F G ι O σ sd M H) {x dx C : Addr} (hx : H x = none) (hd : H dx = none) (ne : dx ≠ x) (hc : mg c = some (.ref C)) :
    SR K mg ofl ow F G (ι ++ [x]) (updO O x (some (.obj M.length))) σ sd (M ++ [.ins c []]) (upd (upd H dx (.own x)) x (.ins C dx [])) ∧ Pre ι (ι ++ [x]) := by
  have pr : Pre ι (ι ++ [x]) := fun j a e => by rw [List.getElem?_append_left (List.getElem?_eq_some_iff.mp e).1]; exact e
  have g1 : G x = none := s.wd.g.free hx
  have f1 : F x = none := s.wd.f.free hx
  have g2 : G dx = none := s.wd.g.free hd
  have f2 : F dx = none := s.wd.f.free hd
  have o1 := s.wd.noO hx
  have o2 := s.wd.noO hd
  have keep : ∀ b o, O b = some o → updO O x (some (.obj M.length)) b = some o ∧ upd (upd H dx (.own x)) x (.ins C dx []) b = H b := fun b o e => by
    have n1 : b ≠ x := fun z => by rw [z, o1] at e; cases e
    have n2 : b ≠ dx := fun z => by rw [z, o2] at e; cases e
    exact ⟨by rw [updO_ne n1]; exact e, by rw [upd_ne n1, upd_ne n2]⟩
  refine ⟨⟨⟨Same.put (Same.put s.wd.g g2) g1, Same.put (Same.put s.wd.f f2) f1, fun b e => ?_, s.wd.gf, by rw [List.length_append, List.length_append, s.wd.len]; rfl, fun j u e => ?_⟩, s.sl.mono (Same.refl G) pr fun b i _ e => keep b _ e⟩, pr⟩
  · by_cases q : b = x
    · subst q
      exact ⟨g1, f1, by rw [upd_same]; simp⟩
    · rw [updO_ne q] at e
      obtain ⟨e1, e2, e3⟩ := s.wd.og b e
      refine ⟨e1, e2, ?_⟩
      rw [upd_ne q]
      by_cases q2 : b = dx
      · rw [q2, upd_same]; simp
      · rw [upd_ne q2]; exact e3
  · by_cases q : j < M.length
    · rw [List.getElem?_append_left q] at e
      obtain ⟨a2, z1, z2, z3⟩ := s.wd.at_ j u e
      obtain ⟨k1, k2⟩ := keep _ _ z2
      exact ⟨a2, pr _ _ z1, k1, z3.mono (Same.refl G) pr k2 fun b' f' e' => keep _ _ e'⟩
    · have hj : j = M.length := by
        have := (List.getElem?_eq_some_iff.mp e).1
        rw [List.length_append] at this
        simp only [List.length_cons, List.length_nil] at this
        omega
      subst hj
      rw [List.getElem?_append_right (Nat.le_refl _), Nat.sub_self] at e
      cases e
      refine ⟨x, ?_, updO_same, C, dx, [], hc, upd_same, .nil, List.nodup_nil⟩
      rw [← s.wd.len, List.getElem?_append_right (Nat.le_refl _), Nat.sub_self]
      rfl
end

/-! ### rules -/
def eFld (c f : Str) (a : Ev) : Ev := fun sd M => (a sd M).bind fun d M1 => match getO c M1 d with
  | some (_, fs) => R.ofO (lookF f fs) M1
  | none => .bad
section
variable {ofl : Str → Str → Bool} {X : Cx} {W : WX} {ow : List Nat} {p : Bool} {e o : Expr} {ev : Ev} {c f : Str} {pos pos' : Pos} {C : Addr} {ro : Bool}
/-- e.f: data -/
theorem pev_fld (hc : X.mg c = some (.ref C)) (T : Cls X.K C) (nA : NoAttr X.K C f) (hf : ofl c f = false) (he : PEv ofl X W ow p .dat e ev) (hb : attributeBase e f X.env (eval e X.env) = eval e X.env := by rfl) : PEv ofl X W ow p .dat (.Attribute e f pos) (eFld c f ev) := by
  refine ⟨PE.imp (pe_fld he.pe hb) fun σ H Q q => ?_⟩
  obtain ⟨F, G, ι, O, sd, M, s, q⟩ := q
  refine seq_e (P := fun H G ι r => EPo X.K X.mg ofl W ow p .dat F G ι σ sd H Q r) s epo_bad (fun H G ι x M' z => z) q fun d M1 v H1 G1 ι1 O1 sg1 pr1 s1 k1 q1 h1 => ?_
  cases z : getO c M1 d with
  | none => rw [z] at h1; exact h1.elim
  | some lf =>
    obtain ⟨l, fs⟩ := lf
    rw [z] at h1
    obtain ⟨rfl, hm⟩ := getO_some z
    obtain ⟨a, C', dx, vs, e1, e2, e3, e4, e5, e6⟩ := s1.ins hm
    rw [hc] at e3
    cases e3
    cases k1 with
    | obj ha =>
      rw [e1] at ha
      cases ha
      dsimp only at h1
      rcases fl_look (f := f) e5 with ⟨z2, _⟩ | ⟨w, d2, y1, y2, y3, y4⟩
      · rw [z2] at h1; exact h1.elim
      · rw [y1] at h1
        rw [if_neg (by rw [hf]; exact Bool.false_ne_true)] at y4
        exact ⟨a, C, dx, vs, w, rfl, e4, T, nA, y2, h1 w H1 G1 ι1 O1 sg1 pr1 s1 y4 q1⟩
/-- e.f: what stands there now -/
theorem pev_fldO (hc : X.mg c = some (.ref C)) (T : Cls X.K C) (nA : NoAttr X.K C f) (hf : ofl c f = true) (he : PEv ofl X W ow p .dat e ev) (hb : attributeBase e f X.env (eval e X.env) = eval e X.env := by rfl) : PEv ofl X W ow p .fp (.Attribute e f pos) (eFld c f ev) := by
  refine ⟨PE.imp (pe_fld he.pe hb) fun σ H Q q => ?_⟩
  obtain ⟨F, G, ι, O, sd, M, s, q⟩ := q
  refine seq_e (P := fun H G ι r => EPo X.K X.mg ofl W ow p .fp F G ι σ sd H Q r) s epo_bad (fun H G ι x M' z => z) q fun d M1 v H1 G1 ι1 O1 sg1 pr1 s1 k1 q1 h1 => ?_
  cases z : getO c M1 d with
  | none => rw [z] at h1; exact h1.elim
  | some lf =>
    obtain ⟨l, fs⟩ := lf
    rw [z] at h1
    obtain ⟨rfl, hm⟩ := getO_some z
    obtain ⟨a, C', dx, vs, e1, e2, e3, e4, e5, e6⟩ := s1.ins hm
    rw [hc] at e3
    cases e3
    cases k1 with
    | obj ha =>
      rw [e1] at ha
      cases ha
      dsimp only at h1
      rcases fl_look (f := f) e5 with ⟨z2, _⟩ | ⟨w, d2, y1, y2, y3, y4⟩
      · rw [z2] at h1; exact h1.elim
      · rw [y1] at h1
        rw [if_pos hf] at y4
        obtain ⟨b, y5, _, y6⟩ := y4
        exact ⟨a, C, dx, vs, w, rfl, e4, T, nA, y2, h1 w H1 G1 ι1 O1 sg1 pr1 s1 (.inr ⟨b, y5, y6⟩) q1⟩
/-- x.f = e, x a name (no own list) -/
def sFldS (c f : Str) (i : Nat) (a : Ev) : Sv := fun sd M => (a sd M).toF sd fun d M1 => match (sget sd i).bind (getO c M1) with
  | some (l, fs) => if fs.length ≤ 900 then .nx sd (M1.set l (.ins c (putFd f d fs))) else .bad
  | none => .bad
theorem fld_set {F G G1 : Hp} {ι ι1 : List Addr} {O1 : Addr → Option Own} {σ : St} {sd : Sd} {M1 : Mem} {H1 : Hp} {E : Ends} {d : D} {v : V} {i : Nat} (hc : X.mg c = some (.ref C)) (T : Cls X.K C) (nA : NoAttr X.K C f) (hi : i ∉ ow) (sg : Same G G1) (pr : Pre ι ι1)
    (s : SR X.K X.mg ofl ow F G1 ι1 O1 σ sd M1 H1) (hv : ∀ l : Nat, ∃ O2, SR X.K X.mg ofl ow F G1 ι1 O2 σ sd M1 H1 ∧ FlR X.K X.mg ofl G1 ι1 O2 H1 l c (f, v) (f, d))
    (h : SPo X.K X.mg ofl W ow ow ro F G ι E (match (sget sd i).bind (getO c M1) with
      | some (l, fs) => if fs.length ≤ 900 then .nx sd (M1.set l (.ins c (putFd f d fs))) else .bad
      | none => .bad)) :
    tVar i σ H1 fun x H2 => ∃ a C dx fs, x = .ref a ∧ H2 a = some (.ins C dx fs) ∧ Cls X.K C ∧ NoAttr X.K C f ∧ fs.length < 1000 ∧ E.nx σ (upd H2 a (.ins C dx (putF f v fs))) := by
  cases z : sget sd i with
  | none => rw [z] at h; exact h.elim
  | some w =>
    rw [z] at h
    have hd := sget_some z
    obtain ⟨u, e1, e2⟩ := s.sl.2 i w hd
    rw [if_neg hi] at e2
    cases y : getO c M1 w with
    | none =>
      rw [show (some w).bind (getO c M1) = getO c M1 w from rfl, y] at h
      exact h.elim
    | some lf =>
      rw [show (some w).bind (getO c M1) = getO c M1 w from rfl, y] at h
      obtain ⟨l, fs⟩ := lf
      obtain ⟨rfl, hm⟩ := getO_some y
      obtain ⟨O2, s2, hv2⟩ := hv l
      obtain ⟨a, C', dx, vs, g1, g2, g3, g4, g5, g6⟩ := s2.ins hm
      rw [hc] at g3
      cases g3
      cases e2 with
      | obj ha =>
        rw [g1] at ha
        cases ha
        dsimp only at h
        split at h
        · rename_i hl
          refine ⟨.ref a, e1, a, C, dx, vs, rfl, g4, T, nA, by rw [g5.length]; omega, ?_⟩
          exact h σ _ G1 ι1 O2 sg pr (s2.putI hm g1 g2 hc g4 (fl_put hv2 g5) (putFd_nodup g6))
        · exact h.elim
theorem psv_fld {i : Nat} {x : Str} {xp : Pos} (hc : X.mg c = some (.ref C)) (T : Cls X.K C) (nA : NoAttr X.K C f) (hf : ofl c f = false) (hx : PE X (.Name x xp) (tVar i)) (hi : ow.contains i = false) (he : PEv ofl X W ow p .dat e ev)
    (hs : swapsWith e (some (.Attribute (.Name x xp) f pos')) pos.line X.env = pure false := by rfl) : PSv ofl X W ow ow ro (.Assign [.Attribute (.Name x xp) f pos'] e pos) (sFldS c f i ev) := by
  refine ⟨PS.imp (ps_fld hx he.pe hs) fun E σ H q => ?_⟩
  obtain ⟨F, G, ι, O, sd, M, s, q⟩ := q
  refine seq_s s q fun d M1 v H1 G1 ι1 O1 sg1 pr1 s1 k1 q1 => ?_
  refine fld_set hc T nA (by simpa using hi) sg1 pr1 s1 (fun l => ⟨O1, s1, rfl, ?_⟩) q1
  rw [if_neg (by rw [hf]; exact Bool.false_ne_true)]
  exact k1
/-- x.f = e, a new list or dict, the field's own -/
theorem psv_fldO {i : Nat} {x : Str} {xp : Pos} (hc : X.mg c = some (.ref C)) (T : Cls X.K C) (nA : NoAttr X.K C f) (hf : ofl c f = true) (hx : PE X (.Name x xp) (tVar i)) (hi : ow.contains i = false) (he : PEv ofl X W ow p .own e ev)
    (hs : swapsWith e (some (.Attribute (.Name x xp) f pos')) pos.line X.env = pure false := by rfl) : PSv ofl X W ow ow ro (.Assign [.Attribute (.Name x xp) f pos'] e pos) (sFldS c f i ev) := by
  refine ⟨PS.imp (ps_fld hx he.pe hs) fun E σ H q => ?_⟩
  obtain ⟨F, G, ι, O, sd, M, s, q⟩ := q
  refine seq_s s q fun d M1 v H1 G1 ι1 O1 sg1 pr1 s1 k1 q1 => ?_
  obtain ⟨b, rfl, k2, k3⟩ := k1
  refine fld_set hc T nA (by simpa using hi) sg1 pr1 s1 (fun l => ⟨_, s1.giveF (l := l) (f := f) k2, rfl, ?_⟩) q1
  rw [if_pos hf]
  exact ⟨b, rfl, updO_same, k3⟩
end
end La

set_option Elab.async false
set_option linter.all false
set_option maxRecDepth 100000
/-! LaC2: what stands in a field is changed; a name's own thing given to a field; methods; making. -/
namespace La
open PySem PySem.Spec L2

section
variable {ofl : Str → Str → Bool} {X : Cx} {W : WX} {ow : List Nat} {p : Bool} {e o : Expr} {es : List Expr} {ev : Ev} {av : Av} {c f : Str} {pos pos' : Pos} {C : Addr} {ro : Bool} {st : Stmt}
/-- x.f.m(..), what stands in the field f of x changes -/
def sMutF (isT : D → Bool) (mf : Mem → D → List D → Option D) (c f : Str) (i : Nat) (a : Av) : Sv := fun sd M => match (sget sd i).bind (getO c M) with
  | some (l, fs) => match lookF f fs with
    | some d0 => if isT d0 = true then (a sd M).toF sd fun ds M1 => (match getO c M1 (.obj l) with
      | some (_, fs1) => (match lookF f fs1 with
        | some d => (match mf M1 d ds with
          | some d' => .nx sd (M1.set l (.ins c (putFd f d' fs1)))
          | none => .bad)
        | none => .bad)
      | none => .bad) else .bad
    | none => .bad
  | none => .bad
theorem psv_mutF {isT : D → Bool} {mf : Mem → D → List D → Option D} {r : V → List V → Hp → VK → Prop} {i : Nat} {T : String} {x : Str} {xp fpos : Pos} (ok : MutOK ofl X mf r)
    (hT : ∀ (G H : Hp) (ι : List Addr) (b : Addr) (d : D), Cn X.K X.mg G ι H b d → isT d = true → tyV X.K T (.ref b) H) (hc : X.mg c = some (.ref C)) (Tc : Cls X.K C) (nA : NoAttr X.K C f) (hf : ofl c f = true) (hx : PE X (.Name x xp) (tVar i)) (hi : ow.contains i = false)
    (h : ∀ to t, PE X (.Attribute (.Name x xp) f fpos) to → PA X es t → PS X st (tDrop (tBM X.K T r to t))) (ha : PAv ofl X W ow true es av) (hb : attributeBase (.Name x xp) f X.env (eval (.Name x xp) X.env) = eval (.Name x xp) X.env := by rfl) :
    PSv ofl X W ow ow ro st (sMutF isT mf c f i av) := by
  refine ⟨PS.imp (h _ _ (pe_fld hx hb) ha.pa) fun E σ H q => ?_⟩
  obtain ⟨F, G, ι, O, sd, M, s, q⟩ := q
  have hi' : i ∉ ow := by simpa using hi
  unfold sMutF at q
  cases z : sget sd i with
  | none => rw [z] at q; exact q.elim
  | some w =>
    rw [z] at q
    have hd := sget_some z
    obtain ⟨u, e1, e2⟩ := s.sl.2 i w hd
    rw [if_neg hi'] at e2
    rw [show (some w).bind (getO c M) = getO c M w from rfl] at q
    cases y : getO c M w with
    | none => rw [y] at q; exact q.elim
    | some lf =>
      obtain ⟨l, fs⟩ := lf
      rw [y] at q
      dsimp only at q
      obtain ⟨rfl, hm⟩ := getO_some y
      cases y2 : lookF f fs with
      | none => rw [y2] at q; exact q.elim
      | some d0 =>
        rw [y2] at q
        dsimp only at q
        by_cases hT0 : isT d0 = true
        · rw [if_pos hT0] at q
          obtain ⟨a, C', dx, vs, b, g1, g2, g3, g4, g5, _⟩ := s.wfld hm y2 hf
          rw [hc] at g2
          cases g2
          cases e2 with
          | obj ha0 =>
            rw [g1] at ha0
            cases ha0
            refine ⟨.ref a, e1, a, C, dx, vs, .ref b, rfl, g3, Tc, nA, g4, hT _ _ _ _ _ g5 hT0, seq_as s q fun ds M1 ws H1 G1 ι1 O1 sg1 pr1 s1 hv sm q1 => ?_⟩
            cases y3 : getO c M1 (.obj l) with
            | none => rw [y3] at q1; exact q1.elim
            | some lf1 =>
              obtain ⟨l1, fs1⟩ := lf1
              rw [y3] at q1
              dsimp only at q1
              obtain ⟨el, hm1⟩ := getO_some y3
              cases el
              cases y4 : lookF f fs1 with
              | none => rw [y4] at q1; exact q1.elim
              | some d =>
                rw [y4] at q1
                dsimp only at q1
                cases y5 : mf M1 d ds with
                | none => rw [y5] at q1; exact q1.elim
                | some d' =>
                  rw [y5] at q1
                  obtain ⟨a1, C1, dx1, vs1, b1, k1, k2, k3, k4, k5, k6⟩ := s1.wfld hm1 y4 hf
                  have ea := pr1 _ _ g1
                  rw [k1] at ea
                  cases ea
                  have eh := sm rfl _ _ g3
                  rw [k3] at eh
                  cases eh
                  rw [g4] at k4
                  cases k4
                  exact ok F G1 ι1 O1 ow σ sd M1 H1 b d d' ws ds _ s1 k5 hv y5 fun o cn => q1 σ _ G1 ι1 O1 sg1 pr1 (k6 o d' cn)
        · rw [if_neg hT0] at q
          exact q.elim

/-- x.f = y, y a name with a thing of its own, that goes over to the field -/
def sFldT (c f : Str) (i j : Nat) : Sv := fun sd M => match sget sd j with
  | some d => (match (sget sd i).bind (getO c M) with
    | some (l, fs) => if fs.length ≤ 900 then .nx (sd.set j none) (M.set l (.ins c (putFd f d fs))) else .bad
    | none => .bad)
  | none => .bad
theorem SR.hide {F G : Hp} {ι : List Addr} {O : Addr → Option Own} {σ : St} {sd : Sd} {M : Mem} {H : Hp} (s : SR X.K X.mg ofl ow F G ι O σ sd M H) (j : Nat) : SR X.K X.mg ofl ow F G ι O σ (sd.set j none) M H := by
  refine ⟨s.wd, by rw [List.length_set]; exact s.sl.1, fun i d e => ?_⟩
  by_cases q : j = i
  · subst q
    have hl := (List.getElem?_eq_some_iff.mp e).1
    rw [List.length_set] at hl
    rw [List.getElem?_set_self hl] at e
    cases e
  · rw [List.getElem?_set_ne q] at e
    exact s.sl.2 i d e
theorem psv_fldT {i j : Nat} {x y : Str} {xp yp : Pos} (hc : X.mg c = some (.ref C)) (T : Cls X.K C) (nA : NoAttr X.K C f) (hf : ofl c f = true) (hx : PE X (.Name x xp) (tVar i)) (hi : ow.contains i = false) (hy : PE X (.Name y yp) (tVar j)) (hj : ow.contains j = true)
    (hs : swapsWith (.Name y yp) (some (.Attribute (.Name x xp) f pos')) pos.line X.env = pure false := by rfl) : PSv ofl X W ow ow ro (.Assign [.Attribute (.Name x xp) f pos'] (.Name y yp) pos) (sFldT c f i j) := by
  refine ⟨PS.imp (ps_fld hx hy hs) fun E σ H q => ?_⟩
  obtain ⟨F, G, ι, O, sd, M, s, q⟩ := q
  have hi' : i ∉ ow := by simpa using hi
  have hj' : j ∈ ow := by simpa using hj
  unfold sFldT at q
  cases z : sget sd j with
  | none => rw [z] at q; exact q.elim
  | some d =>
    rw [z] at q
    dsimp only at q
    obtain ⟨v, e1, e2⟩ := s.sl.2 j d (sget_some z)
    rw [if_pos hj'] at e2
    obtain ⟨b, rfl, e3, e4⟩ := e2
    refine ⟨.ref b, e1, ?_⟩
    cases y : sget sd i with
    | none => rw [y] at q; exact q.elim
    | some w =>
      rw [y, show (some w).bind (getO c M) = getO c M w from rfl] at q
      obtain ⟨u, g1, g2⟩ := s.sl.2 i w (sget_some y)
      rw [if_neg hi'] at g2
      cases y2 : getO c M w with
      | none => rw [y2] at q; exact q.elim
      | some lf =>
        obtain ⟨l, fs⟩ := lf
        rw [y2] at q
        dsimp only at q
        obtain ⟨rfl, hm⟩ := getO_some y2
        split at q
        · rename_i hl
          -- the thing goes over
          have s2 := s.hide j
          have s3 : SR X.K X.mg ofl ow F G ι (updO O b (some (.fld l f))) σ (sd.set j none) M H := by
            have wd' : Wd X.K X.mg ofl F G ι (updO O b (some (.fld l f))) M H := by
              refine s.wd.go (Same.refl G) s.wd.g s.wd.f (fun a e => ?_) s.wd.gf fun a o e n => ⟨?_, rfl⟩
              · by_cases q : a = b
                · subst q
                  exact s.wd.og a (by rw [e3]; simp)
                · rw [updO_ne q] at e
                  exact s.wd.og a e
              · rw [updO_ne (fun q => ?_)]
                · exact e
                · rw [q, e3] at e
                  cases e
                  rcases n with ⟨_, n⟩ | ⟨_, _, n⟩ <;> cases n
            refine ⟨wd', s2.sl.1, fun k dk ek => ?_⟩
            obtain ⟨vk, h1, h2⟩ := s2.sl.2 k dk ek
            refine ⟨vk, h1, ?_⟩
            split at h2
            · rename_i hk
              rw [if_pos hk]
              obtain ⟨bk, h3, h4, h5⟩ := h2
              refine ⟨bk, h3, ?_, h5⟩
              rw [updO_ne fun q => ?_]
              · exact h4
              · rw [q, e3] at h4
                cases h4
                have hl := (List.getElem?_eq_some_iff.mp ek).1
                rw [List.length_set] at hl
                rw [List.getElem?_set_self hl] at ek
                cases ek
            · rename_i hk
              rw [if_neg hk]
              exact h2
          obtain ⟨a, C', dx, vs, k1, k2, k3, k4, k5, k6⟩ := s3.ins hm
          rw [hc] at k3
          cases k3
          cases g2 with
          | obj ha =>
            rw [k1] at ha
            cases ha
            refine ⟨.ref a, g1, a, C, dx, vs, rfl, k4, T, nA, by rw [k5.length]; omega, ?_⟩
            exact q σ _ G ι _ (Same.refl G) (Pre.refl ι) (s3.putI hm k1 k2 hc k4 (fl_put ⟨rfl, by rw [if_pos hf]; exact ⟨b, rfl, updO_same, e4⟩⟩ k5) (putFd_nodup k6))
        · exact q.elim
end

/-! ### methods, making -/
section
variable {X : Cx} {CX : CXT} {k : Nat} {fI C : Addr} {fd : FuncData} {ps : List Str} {sp : Sp} {dvs : List V} {ds : List Value} {E : St → XK} {x m : Str} {p pos apos : Pos} {e o : Expr} {es : List Expr} {ta : TE} {t : TA}
theorem pe_methAt {pl : Sem Bool} (ho : PE X o ta) (c : Cls X.K C) (hm : Meth X.K C m fI) (Fn : FnOk X.prog X.w X.K X.mg X.base CX k fI fd ps sp) (hr : Room k X.A) (hb : Binds X.K fd ps ds) (hd : Vals dvs ds) (hx : ∀ σ, PassesAt CX X σ (E σ)) (ha : PA X (e :: es) t)
    (hst : starEach (e :: es) X.env = (false, eval e X.env) :: starEach es X.env := by rfl) (hpl : (backTo pos (starEach es X.env)).any (·.1) = false := by rfl)
    (ht : eval (.Call (.Attribute o m apos) (e :: es) [] pos) X.env = (do
      let ov ← eval o X.env
      standAt apos.atName
      let (g, first) ← holding [ov] (getMethod ov m pl)
      callWith pos g first (backTo pos (starEach (e :: es) X.env)) (backToKw pos (keywordEach [] X.env))) := by rfl) :
    PE X (.Call (.Attribute o m apos) (e :: es) [] pos) (fun σ H Q => ta σ H fun x H1 => ∃ a dx fs, x = .ref a ∧ H1 a = some (.ins C dx fs) ∧ fs.lookup m = none ∧ t σ H1 fun vs H2 => sp (x :: (vs ++ dvs)) H2 Q (E σ)) := by
  refine ⟨fun pins s σ H Q I h => PySem.W.methodCall_KW (pl := pl) (thn (ho.run pins s σ H _ I h) fun u s1 z => ?_) ht⟩
  obtain ⟨x, H1, I1, rx, a, dx, fs, rfl, ea, l, q⟩ := z
  obtain rfl : u = Value.ref a := rx
  refine getmeth_ok I1 ea c hm l (PySem.W.callWith_K (first := [.ref a]) (h₀ := X.base) I.ok.mod.kin hm.kp (thn (ha.run pos pins s1 σ H1 _ I1 q) fun us s2 z => ?_) hst hpl)
  obtain ⟨vs, H2, I2, r, q2⟩ := z
  exact ⟨I2.kIn, run_fnSD (us := .ref a :: us) (vs := .ref a :: vs) Fn hr hb hd (hx σ) I2 (.cons rfl r) q2⟩
theorem pe_methAt0 {pl : Sem Bool} (ho : PE X o ta) (c : Cls X.K C) (hm : Meth X.K C m fI) (Fn : FnOk X.prog X.w X.K X.mg X.base CX k fI fd ps sp) (hr : Room k X.A) (hb : Binds X.K fd ps ds) (hd : Vals dvs ds) (hx : ∀ σ, PassesAt CX X σ (E σ))
    (ht : eval (.Call (.Attribute o m apos) [] [] pos) X.env = (do
      let ov ← eval o X.env
      standAt apos.atName
      let (g, first) ← holding [ov] (getMethod ov m pl)
      callWith pos g first (backTo pos (starEach [] X.env)) (backToKw pos (keywordEach [] X.env))) := by rfl) :
    PE X (.Call (.Attribute o m apos) [] [] pos) (fun σ H Q => ta σ H fun x H1 => ∃ a dx fs, x = .ref a ∧ H1 a = some (.ins C dx fs) ∧ fs.lookup m = none ∧ tNil σ H1 fun vs H2 => sp (x :: (vs ++ dvs)) H2 Q (E σ)) := by
  refine ⟨fun pins s σ H Q I h => PySem.W.methodCall_KW (pl := pl) (thn (ho.run pins s σ H _ I h) fun u s1 z => ?_) ht⟩
  obtain ⟨x, H1, I1, rx, a, dx, fs, rfl, ea, l, q⟩ := z
  obtain rfl : u = Value.ref a := rx
  exact getmeth_ok I1 ea c hm l (PySem.W.callWith_K0 (first := [.ref a]) I1.kIn hm.kp (run_fnSD (us := [.ref a]) (vs := [.ref a]) Fn hr hb hd (hx σ) I1 (.cons rfl .nil) q))
theorem run_makeAt {pins : List (Addr × Obj)} {σ : St} {H : Hp} {s : Shared} {Q : VK} {us : List Value} {vs : List V} (M : Mk X.K C fI) (Fn : FnOk X.prog X.w X.K X.mg X.base CX k fI fd ps sp) (hr : Room (k + 1) X.A) (hb : Binds X.K fd ps ds) (hd : Vals dvs ds)
    (hx : PassesAt CX X σ (E σ)) (I : Inv X pins σ H s) (r : Vals vs us)
    (h : ∀ x dx, H x = none → H dx = none → dx ≠ x → sp (.ref x :: (vs ++ dvs)) (upd (upd H dx (.own x)) x (.ins C dx [])) (fun v H2 => v = .non ∧ Q (.ref x) H2) (E σ)) :
    wpAny (model X.prog X.w) X.A (call (.ref C) us) (EP X pins σ Q) X.xe s := by
  have new := h (s.heap.objs.size + 1) s.heap.objs.size (I.hok.fresh (Nat.le_succ _)) (I.hok.fresh (Nat.le_refl _)) (Nat.ne_of_lt (Nat.lt_succ_self _))
  have J := Inv.made (C := C) I
  have rr : Vals (V.ref (s.heap.objs.size + 1) :: (vs ++ dvs)) (Value.ref (s.heap.objs.size + 1) :: (us ++ ds)) := .cons rfl (r.append hd)
  have len : (Value.ref (s.heap.objs.size + 1) :: us ++ ds).length = ps.length := (rr.length.symm.trans (Fn.len _ _ _ _ new))
  refine wpAny_call (make_map (f := fI) I.kIn M.makes M.init (beq_iff_eq.mp M.fn) (codeAny_mono (Fn.run _ X.stack _ _ ⟨Value.ref (s.heap.objs.size + 1) :: us, []⟩ _ _ _ (E σ) (hr.make C us []) (J.env0.make C us []) (hb _ (Value.ref (s.heap.objs.size + 1) :: us) J.kIn len) rr new) fun r s' z => ?_))
  match r, z with
  | .error e, z => exact hx pins _ _ e s' J z
  | .ok (.ret u), z =>
    obtain ⟨v, H', J', rv, ev, q3⟩ := J.after z
    subst ev
    exact ⟨rv, ⟨V.ref (s.heap.objs.size + 1), H', J', rfl, q3⟩⟩
theorem pe_makeAt (M : Mk X.K C fI) (Fn : FnOk X.prog X.w X.K X.mg X.base CX k fI fd ps sp) (hr : Room (k + 1) X.A) (hg : Gl X x) (hm : X.mg x = some (.ref C)) (hb : Binds X.K fd ps ds) (hd : Vals dvs ds) (hx : ∀ σ, PassesAt CX X σ (E σ))
    (ha : PA X (e :: es) t) (hdb : (x == ("__debug__" : Str)) = false := by decide) (he : starEach (e :: es) X.env = (false, eval e X.env) :: starEach es X.env := by rfl) (hpl : (backTo pos (starEach es X.env)).any (·.1) = false := by rfl) :
    PE X (.Call (.Name x p) (e :: es) [] pos) (fun σ H Q => t σ H fun vs H1 => ∀ x dx, H1 x = none → H1 dx = none → dx ≠ x →
      sp (.ref x :: (vs ++ dvs)) (upd (upd H1 dx (.own x)) x (.ins C dx [])) (fun v H2 => v = .non ∧ Q (.ref x) H2) (E σ)) := by
  refine ⟨fun pins s σ H Q I h => wpAny_Call_Name_kw (ld_glob I hg hm ?_ hdb)⟩
  refine PySem.W.callWith_K (h₀ := X.base) I.ok.mod.kin M.kp (thn (ha.run pos pins s σ H _ I h) fun us s1 z => ?_) he hpl
  obtain ⟨vs, H1, I1, r, q⟩ := z
  exact ⟨I1.kIn, run_makeAt M Fn hr hb hd (hx σ) I1 r q⟩
theorem pe_makeAt0 (M : Mk X.K C fI) (Fn : FnOk X.prog X.w X.K X.mg X.base CX k fI fd ps sp) (hr : Room (k + 1) X.A) (hg : Gl X x) (hm : X.mg x = some (.ref C)) (hb : Binds X.K fd ps ds) (hd : Vals dvs ds) (hx : ∀ σ, PassesAt CX X σ (E σ))
    (hdb : (x == ("__debug__" : Str)) = false := by decide) :
    PE X (.Call (.Name x p) [] [] pos) (fun σ H Q => tNil σ H fun vs H1 => ∀ x dx, H1 x = none → H1 dx = none → dx ≠ x →
      sp (.ref x :: (vs ++ dvs)) (upd (upd H1 dx (.own x)) x (.ins C dx [])) (fun v H2 => v = .non ∧ Q (.ref x) H2) (E σ)) :=
  ⟨fun pins s σ H Q I h => wpAny_Call_Name_kw (ld_glob I hg hm (PySem.W.callWith_K0 I.kIn M.kp (run_makeAt (us := []) M Fn hr hb hd (hx σ) I .nil h)) hdb)⟩
end

/-! by their data -/
/-- o.m(..) -/
def eMeth (c m : Str) (fe : List D → Mem → R D) (o : Ev) (a : Av) : Ev := fun sd M => (o sd M).bind fun d M1 => match getO c M1 d with
  | some (_, fs) => (match lookF m fs with
    | none => (a sd M1).bind fun ds M2 => fe (d :: ds) M2
    | some _ => .bad)
  | none => .bad
/-- C(..) -/
def eMake (c : Str) (fe : List D → Mem → R D) (a : Av) : Ev := fun sd M => (a sd M).bind fun ds M1 => (fe (.obj M1.length :: ds) (M1 ++ [.ins c []])).bind fun v M2 => match v with
  | .non => .ok (.obj M1.length) M2
  | _ => .bad
section
variable {ofl : Str → Str → Bool} {X : Cx} {W : WX} {ow : List Nat} {e o : Expr} {es : List Expr} {ov : Ev} {av : Av} {fe : List D → Mem → R D} {ro : Bool} {n : Nat} {c m : Str} {C fI : Addr} {k : Nat} {fd : FuncData} {ps : List Str} {pos apos pp : Pos} {pa po : Bool}
theorem imp_meth (hc : X.mg c = some (.ref C)) (hn : ∀ sd M ds M', av sd M = .ok ds M' → ds.length + 1 = n) {σ : St} {H : Hp} {Q : VK} (h : tev X.K X.mg ofl W ow false (if ro then .own else .dat) (eMeth c m fe ov av) σ H Q) :
    tev X.K X.mg ofl W ow po .dat ov σ H fun x H1 => ∃ a dx fs, x = .ref a ∧ H1 a = some (.ins C dx fs) ∧ fs.lookup m = none ∧ tav X.K X.mg ofl W ow pa av σ H1 fun vs H2 => spv X.K X.mg ofl ro n fe (x :: (vs ++ [])) H2 Q (WE W σ) := by
  obtain ⟨F, G, ι, O, sd, M, s, h⟩ := h
  refine seq_e (P := fun H G ι r => EPo X.K X.mg ofl W ow false _ F G ι σ sd H Q r) s epo_bad (fun H G ι x M' z => z) h fun d M1 x H1 G1 ι1 O1 sg1 pr1 s1 k1 q1 h1 => ?_
  cases z : getO c M1 d with
  | none => rw [z] at h1; exact h1.elim
  | some lf =>
    obtain ⟨l, fs⟩ := lf
    rw [z] at h1
    dsimp only at h1
    obtain ⟨rfl, hm⟩ := getO_some z
    obtain ⟨a, C', dx, vs, e1, e2, e3, e4, e5, e6⟩ := s1.ins hm
    rw [hc] at e3
    cases e3
    cases k1 with
    | obj ha =>
      rw [e1] at ha
      cases ha
      rcases fl_look (f := m) e5 with ⟨z2, z3⟩ | ⟨w, d2, y1, y2, _⟩
      · rw [z2] at h1
        dsimp only at h1
        refine ⟨a, dx, vs, rfl, e4, z3, F, G1, ι1, O1, sd, M1, s1, ?_⟩
        have h1 := h1.up (H1 := H) sg1 pr1 (fun z => by cases z)
        cases y : av sd M1 with
        | bad => rw [y] at h1; exact h1
        | exc x M' => rw [y] at h1; exact h1
        | ok ds M2 =>
          rw [y] at h1
          intro ws H2 G2 ι2 O2 sg2 pr2 s2 hv _
          rw [List.append_nil]
          have hl : (V.ref a :: ws).length = n := by rw [List.length_cons, hv.length]; exact hn _ _ _ _ y
          exact call_imp (H0 := H) s2 (.cons (.obj (pr2 _ _ e1)) hv) hl (EPo.up (H1 := H) h1 sg2 pr2 fun z => by cases z)
      · rw [y1] at h1; exact h1.elim
theorem pev_meth {pl : Sem Bool} (hc : X.mg c = some (.ref C)) (T : Cls X.K C) (hm : Meth X.K C m fI) (Fn : FnOk X.prog X.w X.K X.mg X.base (L2.CX X.prog X.w) k fI fd ps (spv X.K X.mg ofl ro n fe)) (hr : Room k X.A) (hb : Binds X.K fd ps []) (tk : Takes X W)
    (ho : PEv ofl X W ow po .dat o ov) (ha : PAv ofl X W ow pa (e :: es) av) (hn : ∀ sd M ds M', av sd M = .ok ds M' → ds.length + 1 = n)
    (hst : starEach (e :: es) X.env = (false, eval e X.env) :: starEach es X.env := by rfl) (hpl : (backTo pos (starEach es X.env)).any (·.1) = false := by rfl)
    (ht : eval (.Call (.Attribute o m apos) (e :: es) [] pos) X.env = (do
      let ov ← eval o X.env
      standAt apos.atName
      let (g, first) ← holding [ov] (getMethod ov m pl)
      callWith pos g first (backTo pos (starEach (e :: es) X.env)) (backToKw pos (keywordEach [] X.env))) := by rfl) :
    PEv ofl X W ow false (if ro then .own else .dat) (.Call (.Attribute o m apos) (e :: es) [] pos) (eMeth c m fe ov av) :=
  ⟨PE.imp (pe_methAt ho.pe T hm Fn hr hb .nil (fun σ => passAt tk σ) ha.pa hst hpl ht) fun _ _ _ q => imp_meth hc hn q⟩
theorem pev_meth0 {pl : Sem Bool} (hc : X.mg c = some (.ref C)) (T : Cls X.K C) (hm : Meth X.K C m fI) (Fn : FnOk X.prog X.w X.K X.mg X.base (L2.CX X.prog X.w) k fI fd ps (spv X.K X.mg ofl ro 1 fe)) (hr : Room k X.A) (hb : Binds X.K fd ps []) (tk : Takes X W)
    (ho : PEv ofl X W ow po .dat o ov)
    (ht : eval (.Call (.Attribute o m apos) [] [] pos) X.env = (do
      let ov ← eval o X.env
      standAt apos.atName
      let (g, first) ← holding [ov] (getMethod ov m pl)
      callWith pos g first (backTo pos (starEach [] X.env)) (backToKw pos (keywordEach [] X.env))) := by rfl) :
    PEv ofl X W ow false (if ro then .own else .dat) (.Call (.Attribute o m apos) [] [] pos) (eMeth c m fe ov aNil) :=
  ⟨PE.imp (pe_methAt0 ho.pe T hm Fn hr hb .nil (fun σ => passAt tk σ) ht) fun σ H Q q => by
    have q2 := imp_meth (n := 1) (po := po) (pa := true) (ro := ro) hc (fun sd M ds M' e => by cases e; rfl) q
    obtain ⟨F, G, ι, O, sd, M, s, q2⟩ := q2
    refine ⟨F, G, ι, O, sd, M, s, ?_⟩
    cases z : ov sd M with
    | bad => rw [z] at q2; exact q2
    | exc x M' => rw [z] at q2; exact q2
    | ok d M' =>
      rw [z] at q2
      intro v H' G' ι' O' a b s' kr t
      obtain ⟨a1, dx, fs, h1, h2, h3, F2, G2, ι2, O2, sd2, M2, s2, h4⟩ := q2 v H' G' ι' O' a b s' kr t
      exact ⟨a1, dx, fs, h1, h2, h3, h4 [] H' G2 ι2 O2 (Same.refl _) (Pre.refl _) s2 .nil fun _ => Same.refl _⟩⟩
theorem imp_make (hc : X.mg c = some (.ref C)) (hn : ∀ sd M ds M', av sd M = .ok ds M' → ds.length + 1 = n) {σ : St} {H : Hp} {Q : VK} (h : tev X.K X.mg ofl W ow false .dat (eMake c fe av) σ H Q) :
    tav X.K X.mg ofl W ow pa av σ H fun vs H1 => ∀ x dx, H1 x = none → H1 dx = none → dx ≠ x → spv X.K X.mg ofl false n fe (.ref x :: (vs ++ [])) (upd (upd H1 dx (.own x)) x (.ins C dx [])) (fun v H2 => v = .non ∧ Q (.ref x) H2) (WE W σ) := by
  obtain ⟨F, G, ι, O, sd, M, s, h⟩ := h
  refine ⟨F, G, ι, O, sd, M, s, ?_⟩
  unfold eMake at h
  cases z : av sd M with
  | bad => rw [z] at h; exact h
  | exc x M' => rw [z] at h; exact h
  | ok ds M1 =>
    rw [z] at h
    dsimp only [R.bind_ok] at h
    intro vs H1 G1 ι1 O1 sg1 pr1 s1 hv _ x dx hx hd ne
    rw [List.append_nil]
    have h := EPo.up (H1 := H) h sg1 pr1 (fun z => by cases z)
    obtain ⟨s2, pr2⟩ := s1.laidI (c := c) hx hd ne hc
    have hx2 : IsD X.K X.mg G1 (ι1 ++ [x]) (.ref x) (.obj M1.length) := .obj (by rw [← s1.wd.len, List.getElem?_append_right (Nat.le_refl _), Nat.sub_self]; rfl)
    have hl : (V.ref x :: vs).length = n := by rw [List.length_cons, hv.length]; exact hn _ _ _ _ z
    refine call_imp (H0 := H) s2 (.cons hx2 (hv.mono (Same.refl _) pr2)) hl ?_
    have h := EPo.up (H1 := H) h (Same.refl _) pr2 (fun z => by cases z)
    cases y : fe (.obj M1.length :: ds) (M1 ++ [.ins c []]) with
    | bad => rw [y] at h; exact h
    | exc x M' => rw [y] at h; exact h
    | ok d M2 =>
      rw [y] at h
      dsimp only [R.bind_ok] at h
      cases d with
      | non =>
        intro v H' G' ι' O' a b s' kr t
        cases kr
        exact ⟨rfl, h _ H' G' ι' O' a b s' (hx2.mono a b) fun z => by cases z⟩
      | _ => exact h.elim
theorem pev_make (hc : X.mg c = some (.ref C)) (M : Mk X.K C fI) (Fn : FnOk X.prog X.w X.K X.mg X.base (L2.CX X.prog X.w) k fI fd ps (spv X.K X.mg ofl false n fe)) (hr : Room (k + 1) X.A) (hg : Gl X c) (hb : Binds X.K fd ps []) (tk : Takes X W)
    (ha : PAv ofl X W ow pa (e :: es) av) (hn : ∀ sd M ds M', av sd M = .ok ds M' → ds.length + 1 = n) (hdb : (c == ("__debug__" : Str)) = false := by decide) (he : starEach (e :: es) X.env = (false, eval e X.env) :: starEach es X.env := by rfl) (hpl : (backTo pos (starEach es X.env)).any (·.1) = false := by rfl) :
    PEv ofl X W ow false .dat (.Call (.Name c pp) (e :: es) [] pos) (eMake c fe av) :=
  ⟨PE.imp (pe_makeAt M Fn hr hg hc hb .nil (fun σ => passAt tk σ) ha.pa hdb he hpl) fun _ _ _ q => imp_make hc hn q⟩
theorem pev_make0 (hc : X.mg c = some (.ref C)) (M : Mk X.K C fI) (Fn : FnOk X.prog X.w X.K X.mg X.base (L2.CX X.prog X.w) k fI fd ps (spv X.K X.mg ofl false 1 fe)) (hr : Room (k + 1) X.A) (hg : Gl X c) (hb : Binds X.K fd ps []) (tk : Takes X W)
    (hdb : (c == ("__debug__" : Str)) = false := by decide) :
    PEv ofl X W ow false .dat (.Call (.Name c pp) [] [] pos) (eMake c fe aNil) :=
  ⟨PE.imp (pe_makeAt0 M Fn hr hg hc hb .nil (fun σ => passAt tk σ) hdb) fun σ H Q q => by
    obtain ⟨F, G, ι, O, sd, M, s, q2⟩ := imp_make (n := 1) (pa := true) hc (fun sd M ds M' e => by cases e; rfl) q
    exact q2 [] H G ι O (Same.refl _) (Pre.refl _) s .nil fun _ => Same.refl _⟩
end
end La

set_option Elab.async false
set_option linter.all false
set_option maxRecDepth 100000
/-! LaB1: insert, max of a list, sorted of pairs of ints. -/
namespace La
open PySem PySem.Spec L2
open SrtO (Srtd Stb Swo lexB lexB_iff lexB_no ins_stb stb_uniq)

def rInsert : V → List V → Hp → VK → Prop := fun x vs H Q => ∃ (l : Addr) (xs : List V) (i : Int) (y : V), x = .ref l ∧ vs = [.int i, y] ∧ H l = some (.lst xs) ∧ xs.length < sizeLine ∧ 0 ≤ i ∧ i < 2 ^ 63 ∧
  Q .non (upd H l (.lst (xs.take i.toNat ++ [y] ++ xs.drop i.toNat)))
theorem mtInsert {X : Cx} : MtR X "list.insert" rInsert := mt_insert
section
variable {ofl : Str → Str → Bool} {X : Cx}
theorem okIns : MutOK ofl X mIns rInsert := by
  intro F G ι O ow σ sd M H b d d' vs ds Q s c hv hf k
  cases d with
  | lst xs =>
    cases hv with
    | nil => cases hf
    | @cons v1 i vs1 ds1 h1 h2 =>
      cases i with
      | int i =>
        cases h1
        cases h2 with
        | nil => cases hf
        | cons h2 h3 =>
          cases h3 with
          | nil =>
            obtain ⟨us, e1, e2⟩ := c
            obtain ⟨⟨c1, c2, c3⟩, rfl⟩ := ite_some (c := xs.length ≤ 1000000 ∧ 0 ≤ i ∧ i ≤ 1000000) (a := D.lst _) hf
            have hz : sizeLine = 16777216 := PySem.sizeLine_eq
            exact ⟨b, us, i, _, rfl, rfl, e1, by rw [e2.length]; omega, c2, by omega, k _ ⟨_, upd_same, ((e2.take i.toNat).append (.cons h2 .nil)).append (e2.drop i.toNat)⟩⟩
          | cons a b => cases hf
      | _ => cases h2 <;> cases hf
  | _ => cases ds <;> cases hf

/-! ### max of a list of ints -/
def intsD : List D → Option (List Int)
  | [] => some []
  | .int i :: ds => (intsD ds).map (i :: ·)
  | _ => none
theorem intsD_of {K : PySem.W.Frag} {mg : Str → Option Value} {G : Hp} {ι : List Addr} : ∀ {vs : List V} {ds : List D} {ns : List Int}, IsDs K mg G ι vs ds → intsD ds = some ns → vs = ns.map V.int
  | _, _, _, .nil, e => by cases e; rfl
  | _, _, _, .cons (d := d) h t, e => by
    cases d with
    | int i =>
      cases h
      obtain ⟨ms, e1, rfl⟩ := Option.map_eq_some_iff.mp e
      rw [intsD_of t e1]
      rfl
    | _ => cases e
def maxL : Int → List Int → Int
  | i, [] => i
  | i, j :: r => maxL (max i j) r
theorem maxL_ge : ∀ (r : List Int) (i : Int), i ≤ maxL i r ∧ (∀ y ∈ r, y ≤ maxL i r) ∧ (maxL i r = i ∨ maxL i r ∈ r)
  | [], i => ⟨Int.le_refl _, (fun _ h => nomatch h), .inl rfl⟩
  | j :: r, i => by
    obtain ⟨h1, h2, h3⟩ := maxL_ge r (max i j)
    rw [maxL]
    refine ⟨by omega, fun y hy => ?_, ?_⟩
    · rcases List.mem_cons.mp hy with rfl | hy
      · omega
      · exact h2 y hy
    · rcases h3 with h3 | h3
      · by_cases q : i ≤ j
        · rw [h3]
          right
          rw [show max i j = j from by omega]
          exact List.mem_cons_self
        · left
          omega
      · exact .inr (List.mem_cons_of_mem _ h3)
def dMaxL : D → Option D
  | .lst ds => match intsD ds with
    | some (i :: r) => some (.int (maxL i r))
    | _ => none
  | _ => none
theorem okMaxL : UnOK ofl X dMaxL (fun x H Q => rMax X.K [x] H Q) := by
  intro F G ι O ow σ sd M H x d z Q s hx hf k
  cases d with
  | lst ds =>
    obtain ⟨a, vs, rfl, h1, h2⟩ := hx.lst s.wd.g
    have hf' : (match intsD ds with
      | some (i :: r) => some (D.int (maxL i r))
      | _ => none) = some z := hf
    cases e : intsD ds with
    | none => rw [e] at hf'; cases hf'
    | some ns =>
      rw [e] at hf'
      cases ns with
      | nil => cases hf'
      | cons i r =>
        cases hf'
        obtain rfl := intsD_of h2 e
        refine ⟨a, i :: r, rfl, .of h1, by simp, fun m hm hle => ?_⟩
        obtain ⟨g1, g2, g3⟩ := maxL_ge r i
        have hmem : maxL i r ∈ i :: r := by
          rcases g3 with g3 | g3
          · rw [g3]; exact List.mem_cons_self
          · exact List.mem_cons_of_mem _ g3
        have : m = maxL i r := by
          have a1 := hle _ hmem
          have a2 : m ≤ maxL i r := by
            rcases List.mem_cons.mp hm with rfl | hm
            · exact g1
            · exact g2 m hm
          omega
        subst this
        exact k _ H G (Same.refl G) (Same.refl H) s (.int _)
  | _ => cases hf

/-! ### sorted of pairs -/
def insP {α : Type} (k : α → Int × Int) (x : α) : List α → List α
  | [] => [x]
  | y :: r => if lexB (k x) (k y) = true then x :: y :: r else y :: insP k x r
def srtP {α : Type} (k : α → Int × Int) (acc : List α) : List α → List α
  | [] => acc
  | x :: l => srtP k (insP k x acc) l
section
variable {α β : Type} {k : α → Int × Int}
theorem insP_split (x : α) : ∀ {acc : List α}, Srtd (fun x y => lexB (k x) (k y)) acc → ∃ A B, acc = A ++ B ∧ insP k x acc = A ++ x :: B ∧ (∀ a ∈ A, lexB (k x) (k a) = false) ∧ ∀ b ∈ B, lexB (k x) (k b) = true
  | [], _ => ⟨[], [], rfl, rfl, (fun _ h => nomatch h), (fun _ h => nomatch h)⟩
  | y :: r, h => by
    rw [insP]
    by_cases q : lexB (k x) (k y) = true
    · rw [if_pos q]
      refine ⟨[], y :: r, rfl, rfl, (fun _ h => nomatch h), fun b hb => ?_⟩
      rcases List.mem_cons.mp hb with rfl | hb
      · exact q
      · have h1 := (List.pairwise_cons.mp h).1 b hb
        have a1 := lexB_iff.mp q
        have a2 := lexB_no.mp h1
        exact lexB_iff.mpr (by omega)
    · rw [if_neg q]
      obtain ⟨A, B, e1, e2, e3, e4⟩ := insP_split x (List.pairwise_cons.mp h).2
      exact ⟨y :: A, B, by rw [e1]; rfl, by rw [e2]; rfl, fun a ha => (List.mem_cons.mp ha).elim (fun z => by rw [z]; exact Bool.eq_false_iff.mpr q) (e3 a), e4⟩
theorem insP_srtd {x : α} {acc : List α} (h : Srtd (fun x y => lexB (k x) (k y)) acc) : Srtd (fun x y => lexB (k x) (k y)) (insP k x acc) := by
  obtain ⟨A, B, e1, e2, e3, e4⟩ := insP_split x h
  rw [e2]
  rw [e1] at h
  obtain ⟨h1, h2, h3⟩ := List.pairwise_append.mp h
  refine List.pairwise_append.mpr ⟨h1, List.pairwise_cons.mpr ⟨fun b hb => ?_, h2⟩, fun a ha b hb => ?_⟩
  · have := lexB_iff.mp (e4 b hb)
    exact lexB_no.mpr (by omega)
  · rcases List.mem_cons.mp hb with rfl | hb
    · exact e3 a ha
    · exact h3 a ha b hb
theorem srtP_ok (O : Swo fun (x y : α) => lexB (k x) (k y)) : ∀ (l acc m : List α), Srtd (fun x y => lexB (k x) (k y)) acc → Stb (fun x y => lexB (k x) (k y)) acc m → Srtd (fun x y => lexB (k x) (k y)) (srtP k acc l) ∧ Stb (fun x y => lexB (k x) (k y)) (srtP k acc l) (m ++ l)
  | [], acc, m, h1, h2 => by rw [List.append_nil]; exact ⟨h1, h2⟩
  | x :: l, acc, m, h1, h2 => by
    obtain ⟨A, B, e1, e2, e3, e4⟩ := insP_split x h1
    have := srtP_ok O l (insP k x acc) (m ++ [x]) (insP_srtd h1) (by rw [e2]; rw [e1] at h2; exact ins_stb O e4 h2)
    rw [List.append_assoc] at this
    exact this
theorem insP_map (f : β → α) (x : β) : ∀ acc : List β, (insP (fun b => k (f b)) x acc).map f = insP k (f x) (acc.map f)
  | [] => rfl
  | y :: r => by
    rw [insP, List.map_cons, insP]
    split
    · rfl
    · rw [List.map_cons, insP_map f x r]
theorem srtP_map (f : β → α) : ∀ (l acc : List β), (srtP (fun b => k (f b)) acc l).map f = srtP k (acc.map f) (l.map f)
  | [], acc => rfl
  | x :: l, acc => by
    rw [srtP, srtP_map f l, List.map_cons, srtP, insP_map]
end
/-- the two ints of a pair -/
def keyP : D → Int × Int
  | .tup [.int i, .int j] => (i, j)
  | _ => (0, 0)
def isPr : D → Bool
  | .tup [.int _, .int _] => true
  | _ => false
theorem isPr_eq {d : D} (h : isPr d = true) : d = .tup [.int (keyP d).1, .int (keyP d).2] := by
  unfold isPr at h
  split at h
  · rfl
  · cases h
def rSortP (K : PySem.W.Frag) : List V → Hp → VK → Prop := fun vs H Q => ∃ (a : Addr) (xs : List V) (ks : List (Int × Int)), vs = [V.ref a] ∧ SqL K H a xs ∧ Paired (fun (x : V) (q : Int × Int) => ∃ t, x = V.ref t ∧ SqT K H t [.int q.1, .int q.2]) xs ks ∧
  ∀ p, H p = none → Q (.ref p) (upd H p (.lst ((srtP Prod.snd [] (xs.zip ks)).map Prod.fst)))
theorem zip_map {k : V → Int × Int} {P : V → Int × Int → Prop} (h : ∀ x q, P x q → k x = q) : ∀ {xs : List V} {ks : List (Int × Int)}, Paired P xs ks → xs.zip ks = xs.map fun x => (x, k x)
  | _, _, .nil => rfl
  | _, _, .cons r t => by
    rw [List.zip_cons_cons, List.map_cons, zip_map h t, h _ _ r]
open Classical in
theorem cr_sortP : CallR X (.builtin "sorted") (rSortP X.K) := by
  intro pins s σ H vs us Q I r h
  obtain ⟨a, xs, ks, rfl, hs, hx, q⟩ := h
  obtain ⟨its, rv, hl, hz⟩ := I.list hs
  obtain ⟨u, rfl, ru⟩ := vals1 r
  obtain rfl : u = Value.ref a := ru
  let k : V → Int × Int := fun x => if h : ∃ q : Int × Int, ∃ t, x = V.ref t ∧ SqT X.K H t [.int q.1, .int q.2] then choose h else (0, 0)
  have hk : ∀ (x : V) (q : Int × Int), (∃ t, x = V.ref t ∧ SqT X.K H t [.int q.1, .int q.2]) → k x = q := fun x q ⟨t, e, ht⟩ => by
    have hh : ∃ q : Int × Int, ∃ t, x = V.ref t ∧ SqT X.K H t [.int q.1, .int q.2] := ⟨q, t, e, ht⟩
    have e1 : k x = choose hh := dif_pos hh
    obtain ⟨t', e', ht'⟩ := choose_spec hh
    rw [e] at e'
    cases e'
    have e2 := I.tuple_inj ht ht'
    rw [e1]
    injection e2 with e3 e4
    injection e4 with e4 _
    injection e3 with e3
    injection e4 with e4
    exact Prod.ext e3.symm e4.symm
  have hmem : ∀ x ∈ xs, ∃ t, x = V.ref t ∧ SqT X.K H t [.int (k x).1, .int (k x).2] := by
    have key : ∀ {xs : List V} {ks : List (Int × Int)}, Paired (fun (x : V) (q : Int × Int) => ∃ t, x = V.ref t ∧ SqT X.K H t [.int q.1, .int q.2]) xs ks → ∀ x ∈ xs, ∃ t, x = V.ref t ∧ SqT X.K H t [.int (k x).1, .int (k x).2] := by
      intro xs ks pr
      induction pr with
      | nil => intro x hx; cases hx
      | cons r t ih =>
        intro x hx
        rcases List.mem_cons.mp hx with rfl | hx
        · rw [hk _ _ r]; exact r
        · exact ih x hx
    exact key hx
  obtain ⟨e1, e2⟩ := refs_back rv fun x m => by
    obtain ⟨t, e, _⟩ := hmem x m
    exact ⟨t, e⟩
  refine SrtO.sorted_pairsO (k := fun u => k (backV u)) hl.isList (by rw [← rv.length]; exact hz) (fun v hv => ?_) fun h' d out h1 h2 kp hd hn => ?_
  · obtain ⟨t, rfl⟩ := e2 v hv
    have hm : V.ref t ∈ xs := by rw [e1]; exact List.mem_map.mpr ⟨_, hv, rfl⟩
    obtain ⟨t', e, ht⟩ := hmem _ hm
    cases e
    obtain ⟨its2, r2, ⟨o, ho, hc, n, hd⟩, _⟩ := I.tuple ht
    obtain ⟨u1, u2, rfl, ri, rj⟩ := vals2 r2
    obtain ⟨t1, rfl⟩ := ri
    obtain ⟨t2, rfl⟩ := rj
    exact ⟨t, o, t1, t2, n, rfl, ho, hc, hd⟩
  · have h3 : ∀ u ∈ out, ∃ a, u = Value.ref a := fun u hu => e2 u (h2.perm.mem_iff.mp hu)
    obtain ⟨n, hn⟩ := hn
    have hb : Stb (ltP k) (out.map backV) xs := by
      rw [e1]
      exact SrtO.Stb.map (ltP_swo k) backV h2
    have hq := q d (I.hok.fresh hd)
    have same : (srtP Prod.snd [] (xs.zip ks)).map Prod.fst = out.map backV := by
      rw [zip_map hk hx]
      have e5 : (srtP k [] xs).map (fun x => (x, k x)) = srtP Prod.snd [] (xs.map fun x => (x, k x)) := srtP_map (k := Prod.snd) (fun x => (x, k x)) xs []
      rw [← e5, List.map_map]
      have e6 : (srtP k [] xs).map (Prod.fst ∘ fun x => (x, k x)) = srtP k [] xs := by
        rw [show (Prod.fst ∘ fun x => (x, k x)) = id from rfl, List.map_id]
      rw [e6]
      obtain ⟨g1, g2⟩ := srtP_ok (k := k) (ltP_swo k) xs [] [] List.Pairwise.nil (Stb.refl _)
      exact stb_uniq (ltP_swo k) g1 (SrtO.srtd_map h1) (g2.trans ⟨hb.perm.symm, fun x => (hb.cls x).symm⟩)
    rw [same] at hq
    refine ⟨.ref d, upd H d (.lst (out.map backV)), I.laid (t' := s.toks) kp hd ⟨?_, out, n, vals_back h3, hn⟩, rfl, hq⟩
    rw [hb.len]
    exact hz
def dSortP : D → Option D
  | .lst ds => if (ds.all isPr) = true then some (.lst (srtP keyP [] ds)) else none
  | _ => none
variable {W : WX} {ow : List Nat} {p : Bool} {ka : Kd} {a e : Expr} {ev : Ev}
theorem isDs_map {K : PySem.W.Frag} {mg : Str → Option Value} {G : Hp} {ι : List Addr} : ∀ {l : List (V × D)}, (∀ q ∈ l, IsD K mg G ι q.1 q.2) → IsDs K mg G ι (l.map Prod.fst) (l.map Prod.snd)
  | [], _ => .nil
  | q :: l, h => .cons (h q List.mem_cons_self) (isDs_map fun r hr => h r (List.mem_cons_of_mem _ hr))
theorem isDs_zip {K : PySem.W.Frag} {mg : Str → Option Value} {G : Hp} {ι : List Addr} : ∀ {vs : List V} {ds : List D}, IsDs K mg G ι vs ds → (vs.zip ds).map Prod.fst = vs ∧ (vs.zip ds).map Prod.snd = ds ∧ ∀ q ∈ vs.zip ds, IsD K mg G ι q.1 q.2
  | _, _, .nil => ⟨rfl, rfl, fun _ h => nomatch h⟩
  | _, _, .cons h t => by
    obtain ⟨h1, h2, h3⟩ := isDs_zip t
    refine ⟨by rw [List.zip_cons_cons, List.map_cons, h1], by rw [List.zip_cons_cons, List.map_cons, h2], fun q hq => ?_⟩
    rw [List.zip_cons_cons] at hq
    rcases List.mem_cons.mp hq with rfl | hq
    · exact h
    · exact h3 q hq
theorem insP_mem {α : Type} {k : α → Int × Int} {x y : α} : ∀ {acc : List α}, y ∈ insP k x acc → y = x ∨ y ∈ acc
  | [], h => .inl (by simpa [insP] using h)
  | z :: r, h => by
    rw [insP] at h
    split at h
    · rcases List.mem_cons.mp h with h | h
      · exact .inl h
      · exact .inr h
    · rcases List.mem_cons.mp h with h | h
      · exact .inr (by rw [h]; exact List.mem_cons_self)
      · exact (insP_mem h).imp id fun q => List.mem_cons_of_mem _ q
theorem srtP_mem {α : Type} {k : α → Int × Int} {y : α} : ∀ {l acc : List α}, y ∈ srtP k acc l → y ∈ acc ∨ y ∈ l
  | [], _, h => .inl h
  | x :: l, acc, h => by
    rw [srtP] at h
    rcases srtP_mem h with h | h
    · exact (insP_mem h).elim (fun q => .inr (by rw [q]; exact List.mem_cons_self)) .inl
    · exact .inr (List.mem_cons_of_mem _ h)
/-- sorted(x): a new list of one's own -/
theorem pev_sortPO (h : ∀ ta, PE X a ta → PE X e (fun σ H Q => ta σ H fun x H1 => rSortP X.K [x] H1 Q)) (ha : PEv ofl X W ow p ka a ev) : PEv ofl X W ow p .own e (eUn dSortP ev) := by
  refine ⟨PE.imp (h _ ha.pe) fun σ H Q q => ?_⟩
  obtain ⟨F, G, ι, O, sd, M, s, h⟩ := q
  refine seq_e (P := fun H G ι r => EPo X.K X.mg ofl W ow p .own F G ι σ sd H Q r) s epo_bad (fun H G ι x M' z => z) h fun d M1 x H1 G1 ι1 O1 sg1 pr1 s1 k1 q1 h1 => ?_
  have hx := (k1.at s1).drf s1.wd
  cases q : drf M1 d with
  | lst ds =>
    rw [q] at h1 hx
    have h1' : EPo X.K X.mg ofl W ow p .own F G ι σ sd H Q (La.R.ofO (if (ds.all isPr) = true then some (D.lst (srtP keyP [] ds)) else none) M1) := h1
    by_cases c : (ds.all isPr) = true
    · rw [if_pos c] at h1'
      obtain ⟨t, vs, rfl, e1, e2⟩ := hx.lst s1.wd.g
      have pr : ∀ {vs : List V} {ds : List D}, IsDs X.K X.mg G1 ι1 vs ds → ds.all isPr = true → Paired (fun (x : V) (q : Int × Int) => ∃ t, x = V.ref t ∧ SqT X.K H1 t [.int q.1, .int q.2]) vs (ds.map keyP) := by
        intro vs ds hv
        induction vs generalizing ds with
        | nil => intro _; cases hv; exact .nil
        | cons v vs ih =>
          intro c
          cases hv with
          | @cons _ d _ ds hd ht =>
            rw [List.all_cons, Bool.and_eq_true] at c
            have e := isPr_eq c.1
            refine .cons ?_ (ih ht c.2)
            rw [e] at hd
            cases hd with
            | @tup a us _ g1 g2 =>
              cases g2 with
              | cons i1 g2 =>
                cases g2 with
                | cons i2 g2 =>
                  cases g2
                  cases i1
                  cases i2
                  exact ⟨a, rfl, Same.sqt s1.wd.g g1⟩
      refine ⟨t, vs, ds.map keyP, rfl, .of e1, pr e2 c, fun l hl => ?_⟩
      obtain ⟨z1, z2, z3⟩ := isDs_zip e2
      have zk : vs.zip (ds.map keyP) = (vs.zip ds).map fun q => (q.1, keyP q.2) := by
        rw [show (fun q : V × D => (q.1, keyP q.2)) = Prod.map id keyP from rfl, ← List.zip_map, List.map_id]
      have hh : (srtP Prod.snd [] (vs.zip (ds.map keyP))).map Prod.fst = (srtP (fun q : V × D => keyP q.2) [] (vs.zip ds)).map Prod.fst := by
        rw [zk]
        have e5 := srtP_map (k := (Prod.snd : V × (Int × Int) → Int × Int)) (fun q : V × D => (q.1, keyP q.2)) (vs.zip ds) []
        rw [List.map_nil] at e5
        rw [← e5, List.map_map]
        rfl
      have hd : (srtP (fun q : V × D => keyP q.2) [] (vs.zip ds)).map Prod.snd = srtP keyP [] ds := by
        have e5 := srtP_map (k := keyP) (Prod.snd : V × D → D) (vs.zip ds) []
        rw [e5, List.map_nil, z2]
      have hv : IsDs X.K X.mg G1 ι1 ((srtP Prod.snd [] (vs.zip (ds.map keyP))).map Prod.fst) (srtP keyP [] ds) := by
        rw [hh, ← hd]
        exact isDs_map fun q hq => (srtP_mem hq).elim (fun z => nomatch z) (z3 q)
      obtain ⟨s2, sm2⟩ := s1.laidT (o := .lst ((srtP Prod.snd [] (vs.zip (ds.map keyP))).map Prod.fst)) hl
      exact h1' _ _ _ ι1 _ sg1 pr1 s2 ⟨l, rfl, updO_same, _, upd_same, hv⟩ fun t => (q1 t).trans sm2
    · rw [if_neg c] at h1'
      exact h1'.elim
  | _ => rw [q] at h1; exact h1.elim
end
end La

set_option Elab.async false
set_option linter.all false
set_option maxRecDepth 100000
/-! LaH: what the top leaves, by names; the end. -/
namespace La
open PySem PySem.Spec L2
open He (ga ma fAd DefD fnW eqO eqO_ok ba asD frG frG_in AlD)

abbrev FaL := PySem.W.Frag → Bool
def obsL (fa : List FaL) (fn : List DefD) (K : PySem.W.Frag) : AlD := ((fa.all fun f => f K) && fn.all fun d => d.ok K, fn.map fun d => fnW K d.at_)
def SaysL (fa : List FaL) (fn : List DefD) (K : PySem.W.Frag) : Prop := obsL fa fn K = He.valD fn
def obsLG (n : Nat) (fa : List FaL) (fn : List DefD) (g : Addr → Option Obj) : AlD := obsL fa fn (frG g (asD g n))
def hookL (n : Nat) (fa : List FaL) (fn : List DefD) : PySem.W.Hook where
  α := AlD
  obs := fun s => obsLG n fa fn s.heap.get?
  val := fun _ => He.valD fn
  says := fun _ h => ∃ K : PySem.W.Frag, K.In h ∧ SaysL fa fn K
  of := fun _ _ e => ⟨_, frG_in, e⟩
  keeps := fun _ _ _ ⟨K, hK, c⟩ k => ⟨K, PySem.W.Frag.In.keeps hK k, c⟩
theorem obsLG_eq {n : Nat} {fa : List FaL} {fn : List DefD} {g : Addr → Option Obj} {s : Shared} (h : ∀ a, g a = s.heap.get? a) : obsLG n fa fn g = (hookL n fa fn).obs s := by
  have e : g = s.heap.get? := funext h
  rw [e] <;> rfl
section
variable {fa : List FaL} {fn : List DefD} {K : PySem.W.Frag}
theorem SaysL.fact (c : SaysL fa fn K) (i : Nat) {f : FaL} (h : fa[i]? = some f := by rfl) : f K = true := by
  have c1 := (ba (show ((fa.all fun f => f K) && fn.all fun d => d.ok K) = true from congrArg (fun z : AlD => z.1) c)).1
  exact List.all_eq_true.mp c1 f (List.mem_of_getElem? h)
theorem SaysL.def_ (c : SaysL fa fn K) (i : Nat) {d : DefD} (h : fn[i]? = some d := by rfl) : ∃ fd, FunD K d.name d.qual d.params d.body d.scope (d.dvs K) (d.kws K) (fAd K d.at_) fd := by
  have c2 := (ba (show ((fa.all fun f => f K) && fn.all fun d => d.ok K) = true from congrArg (fun z : AlD => z.1) c)).2
  have e : fn.map (fun d => fnW K d.at_) = fn.map DefD.val := congrArg (fun z : AlD => z.2) c
  have e2 : (fn.map fun d => fnW K d.at_)[i]? = (fn.map DefD.val)[i]? := by rw [e]
  rw [List.getElem?_map, List.getElem?_map, h] at e2
  exact DefD.funD (Option.some.inj e2) (List.all_eq_true.mp c2 d (List.mem_of_getElem? h))
end
/-- what stands behind the top -/
structure TxL (fa : List FaL) (fn : List DefD) (K : PySem.W.Frag) (mg : Str → Option Value) : Prop where
  says : SaysL fa fn K
  some_ : ∀ x v, PySem.W.nsIn K mainGlobals x = some (some v) → mg x = some v
  none_ : ∀ x, PySem.W.nsIn K mainGlobals x = some none → mg x = none
theorem TxL.of {fa : List FaL} {fn : List DefD} {K : PySem.W.Frag} {mg : Str → Option Value} {h : Heap} (X : K.In h) (G : h.Ns mainGlobals mg) (c : SaysL fa fn K) : TxL fa fn K mg := ⟨c, fun _ _ e => PySem.W.mg_of X G e, fun _ e => PySem.W.mg_none_of X G e⟩

/-! ### facts -/
def gloF (x : Str) : FaL := fun K => eqO (PySem.W.nsIn K mainGlobals x) (some (some (.ref (ga K x))))
def freeF (x : Str) : FaL := fun K => eqO (PySem.W.nsIn K mainGlobals x) (some none)
def clsF (x : Str) : FaL := fun K => (He.Fa.cls x).ok K
def noatF (x f : Str) : FaL := fun K => (He.Fa.noat x f).ok K
def methF (x m : Str) : FaL := fun K => (He.Fa.meth x m).ok K
def mkrF (x : Str) : FaL := fun K => (He.Fa.mkr x).ok K
def exmF (x y : Str) (b : Bool) : FaL := fun K => decide (PySem.W.exmOne K (.ref (ga K x)) (.ref (ga K y)) = some b)
/-- an own exception class -/
def xclF (x : Str) (bmB : List Value) (newId : String) : FaL := fun K => PySem.W.excInitIn K (ga K x) bmB newId && (PySem.W.excOver K (ga K x) bmB && (PySem.W.hasDictIn K (ga K x) && (eqO (PySem.W.findIn K (.ref (ga K x)) "__setattr__") (some (some (.builtin "object.__setattr__"))) &&
  (decide (PySem.W.subIn K (.ref (ga K x)) (.type "BaseException") = some true) && (decide (PySem.W.typeIn K (.ref (ga K x)) = some (.type "type")) && (PySem.W.keepIn K (.ref (ga K x)) &&
  (eqO (PySem.W.findIn K (.ref (ga K x)) "__getattribute__") (some (some (.builtin "BaseException.__getattribute__"))) && eqO (PySem.W.findIn K (.ref (ga K x)) "__getattr__") (some none))))))))
def xinF (x : Str) : FaL := fun K => eqO (PySem.W.findIn K (.ref (ga K x)) "__init__") (some (some (.ref (ma K (ga K x) "__init__")))) && decide (PySem.W.typeIn K (.ref (ma K (ga K x) "__init__")) = some (.type "function"))
def takF (x f : Str) : FaL := fun K => eqO (PySem.W.takerIn K (ga K x) f) (some none)
/-- what is asked of a caught one -/
def xkF (x : Str) : FaL := fun K => eqO (PySem.W.findIn K (.ref (ga K x)) "__class__") (some (some (.builtin "object.__class__"))) && (eqO (PySem.W.specialIn K (.builtin "object.__class__") "__get__") (some (some (.builtin "getset_descriptor.__get__"))) &&
  (decide (PySem.W.takesIn K (.builtin "object.__class__") = some true) && decide (PySem.W.mroIn K (ga K x) (.type "object") = some true)))
/-- isinstance's answer for an own class against a built-in one, an own one -/
def kitF (x : Str) (T : String) (b : Bool) : FaL := fun K => decide (PySem.W.kitOne K (.ref (ga K x)) (.type T) = some b)
def kitG (x y : Str) (b : Bool) : FaL := fun K => decide (PySem.W.kitOne K (.ref (ga K x)) (.ref (ga K y)) = some b)
def kitsF (y : Str) : FaL := fun K => ["NoneType", "bool", "int", "str", "tuple", "list", "dict"].all fun a => decide (PySem.W.kitOne K (.type a) (.ref (ga K y)) = some false)
def vinF (B initId : String) : FaL := fun K => match PySem.W.findCls K (.type B) (.type "type") "__init__" with
  | some (.val (.builtin id)) => decide (id = initId)
  | _ => false
section
variable {fa : List FaL} {fn : List DefD} {K : PySem.W.Frag} {mg : Str → Option Value}
theorem TxL.glo (T : TxL fa fn K mg) (i : Nat) {x : Str} (h : fa[i]? = some (gloF x) := by rfl) : mg x = some (.ref (ga K x)) := T.some_ _ _ (eqO_ok (T.says.fact i h))
theorem TxL.free (T : TxL fa fn K mg) (i : Nat) {x : Str} (h : fa[i]? = some (freeF x) := by rfl) : mg x = none := T.none_ _ (eqO_ok (T.says.fact i h))
theorem TxL.cls (T : TxL fa fn K mg) (i : Nat) {x : Str} (h : fa[i]? = some (clsF x) := by rfl) : Cls K (ga K x) := He.cls_ok (T.says.fact i h)
theorem TxL.noat (T : TxL fa fn K mg) (i : Nat) {x f : Str} (h : fa[i]? = some (noatF x f) := by rfl) : NoAttr K (ga K x) f := He.noat_ok (T.says.fact i h)
theorem TxL.meth (T : TxL fa fn K mg) (i : Nat) {x m : Str} (h : fa[i]? = some (methF x m) := by rfl) : Meth K (ga K x) m (ma K (ga K x) m) := He.meth_ok (T.says.fact i h)
theorem TxL.mkr (T : TxL fa fn K mg) (i : Nat) {x : Str} (h : fa[i]? = some (mkrF x) := by rfl) : Mk K (ga K x) (ma K (ga K x) "__init__") := He.mkr_ok (T.says.fact i h)
theorem TxL.exm (T : TxL fa fn K mg) (i : Nat) {x y : Str} {b : Bool} (h : fa[i]? = some (exmF x y b) := by rfl) : PySem.W.exmOne K (.ref (ga K x)) (.ref (ga K y)) = some b := of_decide_eq_true (T.says.fact i h)
theorem TxL.xcl (T : TxL fa fn K mg) (i : Nat) {x : Str} {bmB : List Value} {newId : String} (h : fa[i]? = some (xclF x bmB newId) := by rfl) : LaX.XCls K (ga K x) bmB newId := by
  have c := T.says.fact i h
  obtain ⟨c1, c⟩ := ba c
  obtain ⟨c2, c⟩ := ba c
  obtain ⟨c3, c⟩ := ba c
  obtain ⟨c4, c⟩ := ba c
  obtain ⟨c5, c⟩ := ba c
  obtain ⟨c6, c⟩ := ba c
  obtain ⟨c7, c⟩ := ba c
  obtain ⟨c8, c9⟩ := ba c
  exact ⟨c1, c2, c3, eqO_ok c4, of_decide_eq_true c5, of_decide_eq_true c6, c7, eqO_ok c8, eqO_ok c9⟩
theorem TxL.xin (T : TxL fa fn K mg) (i : Nat) {x : Str} (h : fa[i]? = some (xinF x) := by rfl) : PySem.W.findIn K (.ref (ga K x)) "__init__" = some (some (.ref (ma K (ga K x) "__init__"))) ∧ PySem.W.typeIn K (.ref (ma K (ga K x) "__init__")) = some (.type "function") := by
  obtain ⟨c1, c2⟩ := ba (T.says.fact i h)
  exact ⟨eqO_ok c1, of_decide_eq_true c2⟩
theorem TxL.tak (T : TxL fa fn K mg) (i : Nat) {x f : Str} (h : fa[i]? = some (takF x f) := by rfl) : PySem.W.takerIn K (ga K x) f = some none := eqO_ok (T.says.fact i h)
theorem TxL.xf {bmB : List Value} {newId : String} {C : Addr} (c : LaX.XCls K C bmB newId) : XfC K C := ⟨c.ga, c.gg, c.exC, c.hd⟩
theorem TxL.xk (T : TxL fa fn K mg) (i : Nat) {x : Str} {bmB : List Value} {newId : String} (c : LaX.XCls K (ga K x) bmB newId) (h : fa[i]? = some (xkF x) := by rfl) : XkC K (ga K x) := by
  obtain ⟨c1, c2⟩ := ba (T.says.fact i h)
  obtain ⟨c2, c3⟩ := ba c2
  obtain ⟨c3, c4⟩ := ba c3
  exact ⟨TxL.xf c, eqO_ok c1, eqO_ok c2, of_decide_eq_true c3, of_decide_eq_true c4⟩
theorem TxL.kit (T : TxL fa fn K mg) (i : Nat) {x : Str} {B : String} {b : Bool} (h : fa[i]? = some (kitF x B b) := by rfl) : PySem.W.kitOne K (.ref (ga K x)) (.type B) = some b := of_decide_eq_true (T.says.fact i h)
theorem TxL.kitG (T : TxL fa fn K mg) (i : Nat) {x y : Str} {b : Bool} (h : fa[i]? = some (La.kitG x y b) := by rfl) : PySem.W.kitOne K (.ref (ga K x)) (.ref (ga K y)) = some b := of_decide_eq_true (T.says.fact i h)
theorem TxL.kits (T : TxL fa fn K mg) (i : Nat) {y : Str} (h : fa[i]? = some (kitsF y) := by rfl) : ∀ a ∈ ["NoneType", "bool", "int", "str", "tuple", "list", "dict"], PySem.W.kitOne K (.type a) (.ref (ga K y)) = some false := fun a ha => of_decide_eq_true (List.all_eq_true.mp (T.says.fact i h) a ha)
theorem TxL.vin (T : TxL fa fn K mg) (i : Nat) {B initId : String} (h : fa[i]? = some (vinF B initId) := by rfl) : PySem.W.findCls K (.type B) (.type "type") "__init__" = some (.val (.builtin initId)) := by
  have c : (match PySem.W.findCls K (.type B) (.type "type") "__init__" with
    | some (.val (.builtin id)) => decide (id = initId)
    | _ => false) = true := T.says.fact i h
  split at c
  · rename_i id q
    rw [q, of_decide_eq_true c]
  · cases c
end
/-- a class told by a name that is an own one's -/
theorem ClR.own {mg : Str → Option Value} {x : Str} {cv : Value} {C : Addr} (h : ClR mg x cv) (g : mg x = some (.ref C)) : cv = .ref C := by
  rcases h with h | ⟨h, _⟩
  · rw [g] at h
    exact (Option.some.inj h).symm
  · rw [g] at h; cases h

/-! ### a def -/
section
variable {P : Program} {w : World} {K : PySem.W.Frag} {mg : Str → Option Value} {base : Heap} {ofl : Str → Str → Bool}
open PyProof.Rows (envOfC) in
/-- THE RULE for a def as the top leaves it -/
theorem def_okD {x qual : Str} {st : Stmt} {f : Addr} {fd : FuncData} {dvs : List V} {kws : List (Str × V)} {N ps : List Str} {k : Nat} {ow ow' : List Nat} {ro : Bool} {ev : Sv} (F : FunD K x qual (defArgs st) (defBody st) (defScope st) dvs kws f fd) (S : FnScope N ps (defScope st)) (ho : ∀ i ∈ ow, ps.length ≤ i) (hnx : ro = true → ∀ sd M sd' M', ev sd M ≠ .nx sd' M')
    (hb : ∀ (cdv : Value) (A : Around) (outer : List Env) (s : Shared) (H : Hp) (E : XK), Room k (A.deeper (envOfC qual (defScope st) s.heap.objs.size f cdv)) →
      PBv ofl (cxOf (L2.CX P w) P w K mg base N qual (defScope st) f cdv A outer s H E) (WB E) ow ow' ro (defBody st) ev) :
    FnOk P w K mg base (L2.CX P w) (k + 1) f fd ps (spv K mg ofl ro ps.length (fnv ps.length N.length ev)) :=
  F.ok S (fun vs H Q E h => h.1) fun cdv A outer s H vs Q E hr h => body_sp ho hnx (hb cdv A outer s H E hr) h
theorem funD_fun {x qual : Str} {st : Stmt} {f : Addr} {fd : FuncData} {kws : List (Str × V)} (F : FunD K x qual (defArgs st) (defBody st) (defScope st) [] kws f fd) : Fun K x qual st f fd := by
  obtain ⟨oc, od, dV, kV, doc, pm, an, cdv, ct, osl, e, lk, hcd, hD, hK⟩ := F.ex
  rcases hD with ⟨_, rfl⟩ | ⟨h, _⟩
  · exact ⟨⟨oc, od, kV, doc, pm, an, cdv, ct, osl, e, lk, hcd⟩, F.kp⟩
  · exact absurd rfl h
end
/-- the law's def, asked with a script -/
theorem law_sp {K : PySem.W.Frag} {mg : Str → Option Value} {ofl : Str → Str → Bool} {fe : List D → Mem → R D} {H : Hp} {a : Addr} {ns : List Int} (hS : SqL K H a (ns.map V.int)) (h : ∃ M, fe [.scr ns] [] = .ok (.bl true) M) : spv K mg ofl false 1 fe [.ref a] H (fun v _ => v = .bl true) fun _ _ _ => False := by
  obtain ⟨M, h⟩ := h
  refine ⟨rfl, fun _ => none, H, [], fun _ => none, [], [.scr ns], ⟨Same.refl H, (fun _ _ e => nomatch e), (fun _ e => absurd rfl e), (fun _ _ => rfl), rfl, (fun l o e => by simp at e)⟩, (fun _ _ e => nomatch e), .cons (.scr hS) .nil, ?_⟩
  rw [h]
  intro v H' G' ι' O' _ _ _ hv _
  cases hv
  rfl
end La

set_option Elab.async false
set_option linter.all false
set_option maxRecDepth 100000
/-! LaB2: a new list put into the memory; targets of several names; x op= e; tables of classes. -/
namespace La
open PySem PySem.Spec L2

/-- a new list or dict becomes one of the memory -/
def eMem (a : Ev) : Ev := fun sd M => (a sd M).bind fun d M1 => match d.mo with
  | some m => .ok (.obj M1.length) (M1 ++ [m])
  | none => .bad
section
variable {ofl : Str → Str → Bool} {X : Cx} {W : WX} {ow ts : List Nat} {p : Bool} {k : Kd} {tg e : Expr} {ev : Ev} {ro : Bool} {g : Tg} {pos : Pos} {n : Nat}
theorem SR.giveM {F G : Hp} {ι : List Addr} {O : Addr → Option Own} {σ : St} {sd : Sd} {M : Mem} {H : Hp} (s : SR X.K X.mg ofl ow F G ι O σ sd M H) {b : Addr} {d : D} {m : MO} (hb : O b = some .tmp) (c : Cn X.K X.mg G ι H b d) (hm : d.mo = some m) :
    SR X.K X.mg ofl ow F G (ι ++ [b]) (updO O b (some (.obj M.length))) σ sd (M ++ [m]) H ∧ Pre ι (ι ++ [b]) := by
  have pr : Pre ι (ι ++ [b]) := fun j a e => by rw [List.getElem?_append_left (List.getElem?_eq_some_iff.mp e).1]; exact e
  obtain ⟨g1, g2, g3⟩ := s.wd.og b (by rw [hb]; simp)
  have keep : ∀ a o, O a = some o → o ≠ .tmp → updO O b (some (.obj M.length)) a = some o := fun a o e n => by
    rw [updO_ne fun z => n (by rw [z, hb] at e; cases e; rfl)]
    exact e
  refine ⟨⟨⟨s.wd.g, s.wd.f, fun a e => ?_, s.wd.gf, by rw [List.length_append, List.length_append, s.wd.len]; rfl, fun j u e => ?_⟩, s.sl.mono (Same.refl G) pr fun a i _ e => ⟨keep a _ e (fun z => by cases z), rfl⟩⟩, pr⟩
  · by_cases q : a = b
    · subst q
      exact ⟨g1, g2, g3⟩
    · rw [updO_ne q] at e
      exact s.wd.og a e
  · by_cases q : j < M.length
    · rw [List.getElem?_append_left q] at e
      obtain ⟨a2, z1, z2, z3⟩ := s.wd.at_ j u e
      exact ⟨a2, pr _ _ z1, keep _ _ z2 (fun z => by cases z), z3.mono (Same.refl G) pr rfl fun b' f' e' => ⟨keep _ _ e' (fun z => by cases z), rfl⟩⟩
    · have hj : j = M.length := by
        have := (List.getElem?_eq_some_iff.mp e).1
        rw [List.length_append] at this
        simp only [List.length_cons, List.length_nil] at this
        omega
      subst hj
      rw [List.getElem?_append_right (Nat.le_refl _), Nat.sub_self] at e
      cases e
      refine ⟨b, ?_, updO_same, ?_⟩
      · rw [← s.wd.len, List.getElem?_append_right (Nat.le_refl _), Nat.sub_self]
        rfl
      · have c2 := c.mono (Same.refl G) pr (rfl : H b = H b)
        cases d <;> cases hm <;> exact c2
theorem pev_mem (h : PEv ofl X W ow p .own e ev) : PEv ofl X W ow p .dat e (eMem ev) := by
  refine ⟨PE.imp h.pe fun σ H Q q => ?_⟩
  obtain ⟨F, G, ι, O, sd, M, s, q⟩ := q
  refine seq_e (P := fun H G ι r => EPo X.K X.mg ofl W ow p .dat F G ι σ sd H Q r) s epo_bad (fun H G ι x M' z => z) q fun d M1 v H1 G1 ι1 O1 sg1 pr1 s1 k1 q1 h1 => ?_
  obtain ⟨b, rfl, hb, c⟩ := k1
  cases z : d.mo with
  | none => rw [z] at h1; exact h1.elim
  | some m =>
    rw [z] at h1
    obtain ⟨s2, pr2⟩ := s1.giveM hb c z
    exact h1 _ H1 G1 _ _ sg1 (pr1.trans pr2) s2 (.obj (by rw [← s1.wd.len, List.getElem?_append_right (Nat.le_refl _), Nat.sub_self]; rfl)) q1
/-- (a, b) = e -/
theorem psv_asg (hg : PGv ofl X ow ts tg g) (h : ∀ te tg', PE X e te → PG X tg tg' → PS X (.Assign [tg] e pos) (tAsg te tg')) (he : PEv ofl X W ow p .dat e ev) : PSv ofl X W ow ow ro (.Assign [tg] e pos) (sAsg g ev) := by
  refine ⟨PS.imp (h _ _ he.pe hg.pg) fun E σ H q => ?_⟩
  obtain ⟨F, G, ι, O, sd, M, s, q⟩ := q
  refine seq_s s q fun d M1 v H1 G1 ι1 O1 sg1 pr1 s1 k1 h1 => ?_
  cases z : g d sd with
  | none => rw [z] at h1; exact h1.elim
  | some sd1 =>
    rw [z] at h1
    exact ⟨F, G1, ι1, O1, sd, M1, d, s1, k1, sd1, z, fun σ' s' _ => h1 σ' H1 G1 ι1 O1 sg1 pr1 s'⟩
/-- x op= e, ints and the like -/
theorem psv_aug {f : D → D → Option D} {r : R2} {i : Nat} {x : Str} {op : Operator} {pos' : Pos} (ok : BinOK ofl X f r) (h : ∀ te, PE X e te → PS X (.AugAssign (.Name x pos') op e pos) (tAug i te fun a b H Q => r a b H Q)) (he : PEv ofl X W ow p k e ev) (hi : ow.contains i = false) :
    PSv ofl X W ow ow ro (.AugAssign (.Name x pos') op e pos) (sAug f i ev) := by
  refine ⟨PS.imp (h _ he.pe) fun E σ H q => ?_⟩
  obtain ⟨F, G, ι, O, sd, M, s, q⟩ := q
  have hi' : i ∉ ow := by simpa using hi
  unfold sAug sSet eBin eVar at q
  cases z : sget sd i with
  | none => rw [z] at q; exact q.elim
  | some d0 =>
    rw [z] at q
    obtain ⟨v0, e1, e2⟩ := s.sl.2 i d0 (sget_some z)
    rw [if_neg hi'] at e2
    refine ⟨v0, e1, ?_⟩
    have q2 : SPo X.K X.mg ofl W ow ow ro F G ι E ((ev sd M).toF sd fun d1 M1 => (R.ofO (f (drf M1 d0) (drf M1 d1)) M1).toF sd fun d M2 => .nx (sd.set i (some d)) M2) := by
      have e3 : ((R.ofO (some d0) M : R D).bind fun d M1 => (ev sd M1).bind fun e M2 => R.ofO (f (drf M2 d) (drf M2 e)) M2) = (ev sd M).bind fun e M2 => R.ofO (f (drf M2 d0) (drf M2 e)) M2 := rfl
      rw [e3] at q
      cases y : ev sd M with
      | bad => rw [y] at q; exact q
      | exc x M1 => rw [y] at q; exact q
      | ok d1 M1 => rw [y] at q; exact q
    refine seq_s s q2 fun d1 M1 v1 H1 G1 ι1 O1 sg1 pr1 s1 k1 h1 => ?_
    cases y : f (drf M1 d0) (drf M1 d1) with
    | none => rw [y] at h1; exact h1.elim
    | some d =>
      rw [y] at h1
      exact ok F G1 ι1 O1 ow σ sd M1 H1 v0 v1 _ _ d _ s1 (At.drf s1.wd (.inl (e2.mono sg1 pr1))) ((k1.at s1).drf s1.wd) y fun v H' G' sg sm s' hv => h1 _ H' G' ι1 O1 (sg1.trans sg) pr1 (s'.set hi' hv)
end
def dAddI : D → D → Option D
  | .int i, .int j => some (.int (i + j))
  | _, _ => none
theorem okAddI {ofl : Str → Str → Bool} {X : Cx} : BinOK ofl X dAddI (rI0 fun i j => .int (i + j)) := (ok_int0 (g := fun i j => .int (i + j)) fun _ _ _ _ _ _ => .int _).congr fun a b => by cases a <;> cases b <;> rfl
/-! ### tables of classes -/
def tabM (l : List (Str × Bool)) (n : Str) : Option Bool := l.lookup n
theorem tabM_mem {l : List (Str × Bool)} {n : Str} {b : Bool} (h : tabM l n = some b) : (n, b) ∈ l := by
  unfold tabM at h
  induction l with
  | nil => cases h
  | cons q l ih =>
    obtain ⟨m, c⟩ := q
    rw [List.lookup] at h
    split at h
    · rename_i e
      cases h
      rw [eq_of_beq e]
      exact List.mem_cons_self
    · exact List.mem_cons_of_mem _ (ih h)
theorem tabM_exm {K : PySem.W.Frag} {mg : Str → Option Value} {c : Value} {l : List (Str × Bool)} (h : ∀ q ∈ l, ∃ C, mg q.1 = some (.ref C) ∧ PySem.W.exmOne K (.ref C) c = some q.2) : ∀ n b cv, tabM l n = some b → ClR mg n cv → PySem.W.exmOne K cv c = some b := fun n b cv e r => by
  obtain ⟨C, g, k⟩ := h _ (tabM_mem e)
  rw [ClR.own r g]
  exact k
theorem tabM_kit {K : PySem.W.Frag} {mg : Str → Option Value} {u : Value} {l : List (Str × Bool)} (h : ∀ q ∈ l, ∃ C, mg q.1 = some (.ref C) ∧ XkC K C ∧ PySem.W.kitOne K (.ref C) u = some q.2) :
    ∀ n b cv, tabM l n = some b → ClR mg n cv → ∃ C, cv = .ref C ∧ XkC K C ∧ PySem.W.kitOne K (.ref C) u = some b := fun n b cv e r => by
  obtain ⟨C, g, k1, k2⟩ := h _ (tabM_mem e)
  exact ⟨C, ClR.own r g, k1, k2⟩
theorem all0 {α : Type} {P : α → Prop} : ∀ q ∈ ([] : List α), P q := fun _ h => nomatch h
theorem all1 {α : Type} {P : α → Prop} {a : α} {l : List α} (h : P a) (r : ∀ q ∈ l, P q) : ∀ q ∈ a :: l, P q := fun q hq => (List.mem_cons.mp hq).elim (fun z => z ▸ h) (r q)
theorem len1 {av : Av} {m : Nat} (h : ∀ sd M ds M', av sd M = .ok ds M' → ds.length = m) : ∀ sd M ds M', av sd M = .ok ds M' → ds.length + 1 = m + 1 := fun sd M ds M' e => by rw [h sd M ds M' e]
end La

set_option Elab.async false
set_option linter.all false
set_option maxRecDepth 100000
/-! LaT: small turns of the library's rules, as the printer wants them. -/
namespace La
open PySem PySem.Spec L2

def one (r : V → Hp → VK → Prop) : List V → Hp → VK → Prop
  | [x] => r x
  | _ => fun _ _ => False
section
variable {ofl : Str → Str → Bool} {X : Cx} {W : WX} {ow : List Nat} {p : Bool} {ro : Bool} {e o : Expr} {ev : Ev} {f : Value}
theorem CallR.one {r : V → Hp → VK → Prop} {r' : List V → Hp → VK → Prop} (h : CallR X f r') (i : ∀ x H Q, r x H Q → r' [x] H Q) : CallR X f (La.one r) := fun pins s σ H xs us Q I rx q => match xs, rx, q with
  | [x], rx, q => h pins s σ H [x] us Q I rx (i x H Q q)
theorem call_lenX : CallR X (.builtin "len") (La.one fun x H Q => ∃ n, LenV X.K x H n ∧ Q (.int n) H) := CallR.one call_len fun x H Q ⟨n, h, q⟩ => ⟨x, n, rfl, h, q⟩
theorem call_absX : CallR X (.builtin "abs") (La.one fun x H Q => ∃ i, x = .int i ∧ Q (.int (if i < 0 then -i else i)) H) := CallR.one call_abs fun x H Q ⟨i, e, q⟩ => ⟨i, by rw [e], q⟩
theorem call_listX : CallR X (.type "list") (La.one (rListOf X.K)) := CallR.one call_list_of fun x H Q ⟨p, ys, e, h, q⟩ => ⟨p, ys, by rw [e], h, q⟩
theorem call_tupX : CallR X (.type "tuple") (La.one (rTupOf X.K)) := fun pins s σ H xs us Q I rx q => match xs, rx, q with
  | [x], rx, q => by
    obtain ⟨u, rfl, ru⟩ := Vals.one rx
    obtain ⟨p, ys, e, h⟩ := q
    exact rl_tuple pins s σ H x u Q I ru (h.elim (fun h => .inl ⟨p, ys, e, h.1, h.2⟩) fun h => .inr ⟨p, ys, e, h.1, h.2⟩)
/-- x.m() that changes x's own -/
theorem psv_mutS0 {isT : D → Bool} {mf : Mem → D → List D → Option D} {r : V → List V → Hp → VK → Prop} {i : Nat} {T : String} {st : Stmt} (ok : MutOK ofl X mf r)
    (hT : ∀ (G H : Hp) (ι : List Addr) (b : Addr) (d : D), Cn X.K X.mg G ι H b d → isT d = true → tyV X.K T (.ref b) H)
    (h : PS X st (tDrop (tBM0 X.K T r (tVar i)))) (hi : ow.contains i = true) : PSv ofl X W ow ow ro st (sMutS isT mf i aNil) := by
  refine ⟨PS.imp h fun E σ H q => ?_⟩
  obtain ⟨F, G, ι, O, sd, M, s, q⟩ := q
  have hi' : i ∈ ow := by simpa using hi
  unfold sMutS at q
  cases z : sget sd i with
  | none => rw [z] at q; exact q.elim
  | some d =>
    rw [z] at q
    dsimp only at q
    by_cases c : isT d = true
    · rw [if_pos c] at q
      have hd := sget_some z
      obtain ⟨b, g1, g2, g3, g4⟩ := s.wslot hi' hd
      refine ⟨.ref b, g1, hT G H ι b d g2 c, ?_⟩
      have q1 : SPo X.K X.mg ofl W ow ow ro F G ι E (match mf M d [] with
        | some d' => .nx (sd.set i (some d')) M
        | none => .bad) := q
      cases z3 : mf M d [] with
      | none => rw [z3] at q1; exact q1.elim
      | some d' =>
        rw [z3] at q1
        exact ok F G ι O ow σ sd M H b d d' [] [] _ s g2 .nil z3 fun o c => q1 σ _ G ι O (Same.refl G) (Pre.refl ι) (g4 o d' c)
    · rw [if_neg c] at q
      exact q.elim
end
theorem passes0 (X : Cx) : Passes (L2.CX X.prog X.w) X (fun _ _ _ => False) := fun _ _ _ _ _ _ _ h => by
  obtain ⟨_, _, _, _, _, _, _, _, _, _, _, _, z⟩ := h
  exact z.elim
theorem funD_one {K : PySem.W.Frag} {x qual x' qual' : Str} {a a' : Arguments} {b b' : List Stmt} {c c' : Scope} {d d' : List V} {k k' : List (Str × V)} {f : Addr} {fd fd' : FuncData} (F : FunD K x qual a b c d k f fd) (F' : FunD K x' qual' a' b' c' d' k' f fd') : fd = fd' := by
  obtain ⟨oc, od, dV, kV, doc, pm, an, cdv, ct, osl, _, lk, _⟩ := F.ex
  obtain ⟨oc2, od2, dV2, kV2, doc2, pm2, an2, cdv2, ct2, osl2, _, lk2, _⟩ := F'.ex
  rw [lk] at lk2
  injection lk2 with e
  injection e with e1 e2 e3 e4
  injection e3
/-- a statement that never goes on -/
def Nnx (s : Sv) : Prop := ∀ sd M sd' M', s sd M ≠ .nx sd' M'
theorem R.toF_nnx {α : Type} {r : R α} {sd : Sd} {k : α → Mem → La.F} (h : ∀ a M sd' M', k a M ≠ .nx sd' M') (sd' : Sd) (M' : Mem) : r.toF sd k ≠ .nx sd' M' := by
  cases r with
  | ok a M => exact h a M sd' M'
  | exc x M => exact fun z => nomatch z
  | bad => exact fun z => nomatch z
theorem nnx_ret (a : Ev) : Nnx (sRet a) := fun sd M sd' M' => R.toF_nnx (fun _ _ _ _ z => by cases z) sd' M'
theorem nnx_seq (a : Sv) {b : Sv} (h : Nnx b) : Nnx (sSeq a b) := fun sd M sd' M' => by
  unfold sSeq
  cases a sd M with
  | nx s1 M1 => exact h s1 M1 sd' M'
  | _ => exact fun z => nomatch z
theorem nnx_if (c : Tv) {a b : Sv} (h : Nnx a) (k : Nnx b) : Nnx (sIf c a b) := fun sd M sd' M' => R.toF_nnx (fun x M1 s2 M2 => by
  cases x
  · exact k sd M1 s2 M2
  · exact h sd M1 s2 M2) sd' M'
theorem nnx_top (i : Nat) {a : Sv} (h : Nnx a) : Nnx (sTop i a) := fun sd M sd' M' z => by
  unfold sTop at z
  cases y : a sd M with
  | nx s1 M1 => exact h sd M s1 M1 y
  | _ => rw [y] at z; cases z
theorem nnx_raise (c : Str) (mk : List D → Option (List (Str × D))) (av : Av) : Nnx (sRaise c mk av) := fun sd M sd' M' z => by
  unfold sRaise at z
  split at z
  · split at z <;> cases z
  · cases z
  · cases z
end La

/-! ### built-in calls -/
namespace La
open PySem PySem.Spec L2
section
variable {ofl : Str → Str → Bool} {X : Cx} {W : WX} {ow : List Nat} {p : Bool} {ka : Kd} {e : Expr} {ev : Ev} {pp pos py : Pos}
theorem pev_len (hg : Gl X "len") (hm : X.mg "len" = none) (ha : PEv ofl X W ow p ka e ev) (hs : starEach [e] X.env = (false, eval e X.env) :: starEach [] X.env := by rfl) : PEv ofl X W ow p .dat (.Call (.Name "len" pp) [e] [] pos) (eUn dLen ev) :=
  pev_un okLen (fun _ h => pe_callB call_lenX hg hm PyProof.Rows.Boot.«len» (pa_cons h pa_nil hs) (by decide) (by decide) hs rfl) ha
theorem pev_abs (hg : Gl X "abs") (hm : X.mg "abs" = none) (ha : PEv ofl X W ow p ka e ev) (hs : starEach [e] X.env = (false, eval e X.env) :: starEach [] X.env := by rfl) : PEv ofl X W ow p .dat (.Call (.Name "abs" pp) [e] [] pos) (eUn dAbs ev) :=
  pev_un okAbs (fun _ h => pe_callB call_absX hg hm PyProof.Rows.Boot.«abs» (pa_cons h pa_nil hs) (by decide) (by decide) hs rfl) ha
theorem pev_tuple (hg : Gl X "tuple") (hm : X.mg "tuple" = none) (ha : PEv ofl X W ow p ka e ev) (hs : starEach [e] X.env = (false, eval e X.env) :: starEach [] X.env := by rfl) : PEv ofl X W ow p .dat (.Call (.Name "tuple" pp) [e] [] pos) (eUn dTup ev) :=
  pev_un okTup (fun _ h => pe_callTy call_tupX hg hm PyProof.Rows.Boot.«tuple» (pa_cons h pa_nil hs) (by decide) (by decide) hs rfl) ha
theorem pev_list (hg : Gl X "list") (hm : X.mg "list" = none) (ha : PEv ofl X W ow p ka e ev) (hs : starEach [e] X.env = (false, eval e X.env) :: starEach [] X.env := by rfl) : PEv ofl X W ow p .own (.Call (.Name "list" pp) [e] [] pos) (eUn dList ev) :=
  pev_listO (fun _ h => pe_callTy call_listX hg hm PyProof.Rows.Boot.«list» (pa_cons h pa_nil hs) (by decide) (by decide) hs rfl) ha
theorem pev_sortP (hg : Gl X "sorted") (hm : X.mg "sorted" = none) (ha : PEv ofl X W ow p ka e ev) (hs : starEach [e] X.env = (false, eval e X.env) :: starEach [] X.env := by rfl) : PEv ofl X W ow p .own (.Call (.Name "sorted" pp) [e] [] pos) (eUn dSortP ev) :=
  pev_sortPO (fun _ h => pe_callB cr_sortP hg hm PyProof.Rows.Boot.«sorted» (pa_cons h pa_nil hs) (by decide) (by decide) hs rfl) ha
theorem pev_maxL (hc : X.calm = true) (hg : Gl X "max") (hm : X.mg "max" = none) (ha : PEv ofl X W ow p ka e ev) (hs : starEach [e] X.env = (false, eval e X.env) :: starEach [] X.env := by rfl) : PEv ofl X W ow p .dat (.Call (.Name "max" pp) [e] [] pos) (eUn dMaxL ev) :=
  pev_un okMaxL (fun _ h => pe_callB (cr_max hc) hg hm PyProof.Rows.Boot.«max» (pa_cons h pa_nil hs) (by decide) (by decide) hs rfl) ha
theorem pev_all (hc : X.calm = true) (hg : Gl X "all") (hm : X.mg "all" = none) (ha : PEv ofl X W ow p ka e ev) (hs : starEach [e] X.env = (false, eval e X.env) :: starEach [] X.env := by rfl) : PEv ofl X W ow p .dat (.Call (.Name "all" pp) [e] [] pos) (eUn dAll ev) :=
  pev_un okAll (fun _ h => pe_callB (cr_all hc) hg hm PyProof.Rows.Boot.«all» (pa_cons h pa_nil hs) (by decide) (by decide) hs rfl) ha
theorem pev_any (hc : X.calm = true) (hg : Gl X "any") (hm : X.mg "any" = none) (ha : PEv ofl X W ow p ka e ev) (hs : starEach [e] X.env = (false, eval e X.env) :: starEach [] X.env := by rfl) : PEv ofl X W ow p .dat (.Call (.Name "any" pp) [e] [] pos) (eUn dAny ev) :=
  pev_un okAny (fun _ h => pe_callB (cr_any hc) hg hm PyProof.Rows.Boot.«any» (pa_cons h pa_nil hs) (by decide) (by decide) hs rfl) ha
theorem pev_isT {f : D → Option D} {T : String} {y : Str} (ok : UnOK ofl X f (fun x H Q => rIsi X.K [x, .ty T] H Q)) (hg : Gl X "isinstance") (hm : X.mg "isinstance" = none) (hg2 : Gl X y) (hm2 : X.mg y = none) (hv2 : bootBuiltins y = some (.type T)) (ha : PEv ofl X W ow p ka e ev)
    (hs : starEach [e, .Name y py] X.env = (false, eval e X.env) :: starEach [.Name y py] X.env := by rfl) (hs2 : starEach [.Name y py] X.env = (false, eval (.Name y py) X.env) :: starEach [] X.env := by rfl)
    (hn2 : y ≠ "__name__" := by decide) (hd2 : (y == ("__debug__" : Str)) = false := by decide) (hpl : (backTo pos (starEach [.Name y py] X.env)).any (·.1) = false := by rfl) :
    PEv ofl X W ow p .dat (.Call (.Name "isinstance" pp) [e, .Name y py] [] pos) (eUn f ev) :=
  pev_isi ok hg hm PyProof.Rows.Boot.«isinstance» hg2 hm2 hv2 ha (by decide) (by decide) hn2 hd2 hs hs2 fun _ h => pe_callB call_isi hg hm PyProof.Rows.Boot.«isinstance» h (by decide) (by decide) hs hpl
theorem pev_neg (ha : PEv ofl X W ow p ka e ev) : PEv ofl X W ow p .dat (.UnaryOp .USub e pos) (eUn dNeg ev) := pev_un okNeg (fun _ h => pe_un un_neg h) ha
theorem piv_rg1 {a : Expr} {tg : Expr} {av : Av} (hg : Gl X "range") (hm : X.mg "range" = none) (ha : PAv ofl X W ow p [a] av) (hs : starEach [a] X.env = [(false, eval a X.env)] := by rfl) : PIv ofl X W ow p tg (.Call (.Name "range" pp) [a] [] pos) (iR1 av) :=
  piv_range1 (f := pos) (fun _ h => pi_range1 hg hm h hs) ha
theorem piv_rg2 {a b : Expr} {tg : Expr} {av : Av} (hg : Gl X "range") (hm : X.mg "range" = none) (ha : PAv ofl X W ow p [a, b] av) (hs : starEach [a, b] X.env = [(false, eval a X.env), (false, eval b X.env)] := by rfl) (hs2 : starEach [b] X.env = [(false, eval b X.env)] := by rfl) : PIv ofl X W ow p tg (.Call (.Name "range" pp) [a, b] [] pos) (iR2 av) :=
  piv_range2 (fun _ h => pi_range2 hg hm h hs hs2) ha
end
end La

namespace La
open PySem PySem.Spec L2
/-- the end: what may be let out may hang on the world -/
theorem walk_ofW {l : PySem.W.OpenLaw} {n k : Nat} {q : Program} {loose : List Str} {XP : (Str → Option Value) → Heap → Prop} {YP : World → Heap → Prop} {d : DefRec} {CX : World → CXT} {x : Str} (hn : l.most = some n) (hz : n ≤ sizeLine) (hdf : d.params.defaults = []) (hr : Room k callerA)
    (F : ∀ (w : World) (mg : Str → Option Value) (fa : Addr) (h : Heap), YP w h → h.Ns mainGlobals mg → mg d.name = some (.ref fa) →
      ∃ (K : PySem.W.Frag) (fd : FuncData) (sp : Sp), K.In h ∧ (∀ (s : Shared) (u : Value), PySem.BindsTo s fd ⟨[u], []⟩ [(x, u)]) ∧
        (∀ (H : Hp) (a : Addr) (ns : List Int), ns.length ≤ n → Only H → SqL K H a (ns.map V.int) → sp [.ref a] H (fun v _ => v = .bl true) fun _ _ _ => False) ∧ ∀ base : Heap, K.In base → base.Ns mainGlobals mg → FnOk l.prog w K mg base (CX w) k fa fd [x] sp)
    (no : ∀ (w : World) (H : Hp) (s : Shared) (e : Value) (s' : Shared), CX w [] H s (fun _ _ _ => False) e s' → False) : PySem.W.WalkO q loose XP YP l.row.toRowW d [] (fun f vs => PySem.call f vs) := by
  refine Att.attach_call hn hdf fun w u0 u1 m1 m2 g o pm cd doc a vs ns GG Y ho hd hcd hmg hobj hi hle hg => ?_
  obtain ⟨K, fd, sp, X, b, p, f⟩ := F w m1 g _ Y GG.T.g hmg
  exact law_call X GG.T.g GG.T.b GG.T.builtins GG.T.nolimit hg hobj hi (Nat.le_trans hle hz) hr f b (fun H h1 h2 => p H a ns hle h1 h2) fun H e s' => no w H u1 e s'
theorem noCX {P : Program} {w : World} {H : Hp} {s : Shared} {e : Value} {s' : Shared} (c : L2.CX P w [] H s (fun _ _ _ => False) e s') : False := by
  obtain ⟨_, _, _, _, _, _, _, _, _, _, _, _, z⟩ := c
  exact z
end La

set_option Elab.async false
set_option linter.all false
set_option maxRecDepth 100000
/-! LaQ: the evaluators, reckoned. -/
namespace La
open PySem PySem.Spec L2

theorem atI_nat {α : Type} (xs : List α) (n : Nat) : L2.atI xs (n : Int) = xs[n]? := by
  unfold L2.atI L2.ixN
  rw [if_pos (by omega)]
  by_cases h : n < xs.length
  · rw [if_pos (by omega)]
    simp
  · rw [if_neg (by omega), List.getElem?_eq_none (by omega)]
    rfl
theorem atI_last {α : Type} (xs : List α) (x : α) : L2.atI (xs ++ [x]) (-1) = some x := by
  unfold L2.atI L2.ixN
  rw [if_neg (by omega), if_pos (by rw [List.length_append]; simp; omega)]
  have e : (-1 + ((xs ++ [x]).length : Int)).toNat = xs.length := by rw [List.length_append]; simp; omega
  rw [e]
  simp
theorem atI0 {α : Type} (x : α) (xs : List α) : L2.atI (x :: xs) 0 = some x := atI_nat (x :: xs) 0
theorem atI1 {α : Type} (x y : α) (xs : List α) : L2.atI (x :: y :: xs) 1 = some y := atI_nat (x :: y :: xs) 1
theorem ixN_nat (n k : Nat) (h : k < n) : L2.ixN n (k : Int) = some k := by
  unfold L2.ixN
  rw [if_pos (by omega), if_pos (by omega)]
  simp
theorem ixN0 (n : Nat) : L2.ixN (n + 1) 0 = some 0 := ixN_nat (n + 1) 0 (by omega)
theorem ixN1 (n : Nat) : L2.ixN (n + 2) 1 = some 1 := ixN_nat (n + 2) 1 (by omega)
theorem neInt (i j : Int) : dNeo (.int i) (.int j) = some (.bl (decide (i ≠ j))) := by
  by_cases z : i = j
  · simp [dNeo, okEq, D.pl, D.rk, dEq, D.py, PyData.eqv, z]
  · simp [dNeo, okEq, D.pl, D.rk, dEq, D.py, PyData.eqv, z]
theorem eqInt (i j : Int) : dEqo (.int i) (.int j) = some (.bl (decide (i = j))) := by
  by_cases z : i = j
  · simp [dEqo, okEq, D.pl, D.rk, dEq, D.py, PyData.eqv, z]
  · simp [dEqo, okEq, D.pl, D.rk, dEq, D.py, PyData.eqv, z]
end La

set_option Elab.async false
set_option linter.all false
set_option maxRecDepth 100000
set_option maxHeartbeats 4000000
/-! the walk of k75_rooms, printed by gen.py -/
namespace Wk75
open PySem PySem.Spec L2 La
open He (ga ma fAd DefD)
open PyProof.Rows (envOfC)
def top (i : Nat) : Stmt := PySem.Challenge.pw_latehall_k75_rooms.main.body.getD i (.Pass ⟨0, 0, 0, 0⟩)
def ofl : Str → Str → Bool := fun c f => (decide (c = "Room") && decide (f = "stretches"))
def dd__law_feed : DefD := ⟨("_law_feed", none), "_law_feed", "_law_feed", defArgs (top 6), defBody (top 6), defScope (top 6), [], []⟩
def dd_Room_ini : DefD := ⟨("Room", some "__init__"), "__init__", "Room.__init__", defArgs (inClass (top 4) 0), defBody (inClass (top 4) 0), defScope (inClass (top 4) 0), [], []⟩
def dd__law_take : DefD := ⟨("_law_take", none), "_law_take", "_law_take", defArgs (top 7), defBody (top 7), defScope (top 7), [], []⟩
def dd__law_pick : DefD := ⟨("_law_pick", none), "_law_pick", "_law_pick", defArgs (top 8), defBody (top 8), defScope (top 8), [], []⟩
def dd__law_place : DefD := ⟨("_law_place", none), "_law_place", "_law_place", defArgs (top 10), defBody (top 10), defScope (top 10), [], []⟩
def dd_Room_take : DefD := ⟨("Room", some "take"), "take", "Room.take", defArgs (inClass (top 4) 1), defBody (inClass (top 4) 1), defScope (inClass (top 4) 1), [], []⟩
def dd__law_whole : DefD := ⟨("_law_whole", none), "_law_whole", "_law_whole", defArgs (top 9), defBody (top 9), defScope (top 9), [], []⟩
def dd_NotTaken_ini : DefD := ⟨("NotTaken", some "__init__"), "__init__", "NotTaken.__init__", defArgs (inClass (top 1) 0), defBody (inClass (top 1) 0), defScope (inClass (top 1) 0), [], []⟩
def dd_Room_give_back : DefD := ⟨("Room", some "give_back"), "give_back", "Room.give_back", defArgs (inClass (top 4) 2), defBody (inClass (top 4) 2), defScope (inClass (top 4) 2), [], []⟩
def dd__law_refused : DefD := ⟨("_law_refused", none), "_law_refused", "_law_refused", defArgs (top 12), defBody (top 12), defScope (top 12), [], []⟩
def dd_Room_taken : DefD := ⟨("Room", some "taken"), "taken", "Room.taken", defArgs (inClass (top 4) 3), defBody (inClass (top 4) 3), defScope (inClass (top 4) 3), [], []⟩
def dd_Room_height : DefD := ⟨("Room", some "height"), "height", "Room.height", defArgs (inClass (top 4) 4), defBody (inClass (top 4) 4), defScope (inClass (top 4) 4), [], []⟩
def dd__law_stands : DefD := ⟨("_law_stands", none), "_law_stands", "_law_stands", defArgs (top 11), defBody (top 11), defScope (top 11), [], []⟩
def dd_law : DefD := ⟨("law", none), "law", "law", defArgs (top 13), defBody (top 13), defScope (top 13), [], []⟩
def fn : List DefD := [dd__law_feed, dd_Room_ini, dd__law_take, dd__law_pick, dd__law_place, dd_Room_take, dd__law_whole, dd_NotTaken_ini, dd_Room_give_back, dd__law_refused, dd_Room_taken, dd_Room_height, dd__law_stands, dd_law]
def fa : List FaL := [gloF "_law_feed",
  gloF "Room",
  mkrF "Room",
  gloF "_law_take",
  freeF "range",
  gloF "_law_pick",
  gloF "_law_place",
  clsF "Room",
  methF "Room" "take",
  gloF "_law_whole",
  freeF "sorted",
  methF "Room" "give_back",
  gloF "_law_refused",
  gloF "_law_stands",
  methF "Room" "taken",
  freeF "list",
  freeF "len",
  freeF "abs",
  noatF "Room" "stretches",
  freeF "isinstance",
  freeF "int",
  freeF "bool",
  xinF "NotTaken",
  xclF "NotTaken" [.type "IndexError", .type "LookupError", .type "Exception", .type "BaseException", .type "object"] "IndexError.__new__",
  gloF "NotTaken",
  takF "NotTaken" "at",
  freeF "IndexError",
  vinF "IndexError" "IndexError.__init__",
  exmF "NotTaken" "NotTaken" true,
  gloF "Vacant",
  kitsF "Vacant",
  xkF "NotTaken",
  kitG "NotTaken" "Vacant" false,
  kitF "NotTaken" "IndexError" true,
  noatF "NotTaken" "at",
  freeF "all",
  methF "Room" "height",
  freeF "max",
  gloF "law"]
section
variable {P : Program} {w : World} {K : PySem.W.Frag} {mg : Str → Option Value} {base : Heap}
/-! ### _law_feed -/
abbrev s__law_feed : Stmt := top 6
abbrev N__law_feed : List Str := ["script", "k", "seed", "digits"]
theorem sc__law_feed : FnScope N__law_feed ["script", "k"] (defScope s__law_feed) := ⟨rfl, rfl, rfl, by decide +kernel, rfl, by decide +kernel, by decide +kernel⟩
noncomputable def ev__law_feed : Sv := (sSeq (sSet 2 (eBin dAdd (eBin dMul (eC (.int 67)) (eVar 1)) (eC (.int 19))))
  (sSeq (sIf (tOf (eBin dLt (eVar 1) (eUn dLen (eVar 0))))
  (sSet 2 (eBin dIx (eVar 0) (eVar 1)))
  sNx)
  (sSeq (sSet 3 (eC (.int 0)))
  (sSeq (sIf (tOf (eBin dGe (eUn dAbs (eVar 2)) (eBin dPow (eC (.int 10)) (eC (.int 18)))))
  (sSet 3 (eBin dSub (eUn dAbs (eVar 2)) (eBin dPow (eC (.int 10)) (eC (.int 18)))))
  sNx)
  (sRet (eLst (aCons (eVar 3) (aCons (eBin dMod (eBin dAdd (eBin dAdd (eBin dMul (eVar 2) (eC (.int 6364136223846793005))) (eBin dMul (eC (.int 7919)) (eVar 1))) (eC (.int 1442695040888963407))) (eC (.int 2305843009213693951))) aNil))))))))
theorem nx__law_feed : Nnx ev__law_feed := (nnx_seq _ (nnx_seq _ (nnx_seq _ (nnx_seq _ (nnx_ret _)))))
noncomputable def fe__law_feed : List D → Mem → R D := fnv 2 4 ev__law_feed
theorem bd__law_feed (T : TxL fa fn K mg)
 {f : Addr} (cdv : Value) (A : Around) (outer : List Env) (s : Shared) (H : Hp) (E : XK) (hr : Room 0 (A.deeper (envOfC "_law_feed" (defScope s__law_feed) s.heap.objs.size f cdv))) :
    PBv ofl (cxOf (L2.CX P w) P w K mg base N__law_feed "_law_feed" (defScope s__law_feed) f cdv A outer s H E) (WB E) [] [] true (defBody s__law_feed) ev__law_feed :=
  (pbv_cons (psv_set (p := true) (i := 2) (fun _ h => ps_set (i := 2) sc__law_feed.nd rfl (.inl rfl) h) (pev_bin okAdd (fun _ _ ha hb => pe_op op3Add ha hb) (pev_bin okMul (fun _ _ ha hb => pe_op op3Mul ha hb) pev_int (pev_var (pv 1) rfl)) pev_int) rfl)
  (pbv_cons (psv_if (p := true) (ptv_bin okLt (fun _ _ ha hb => pt_cmpR op_lt ha hb (nomark _)) (pev_var (pv 1) rfl) (pev_len rfl (T.free 16) (pev_var (pv 0) rfl)))
  (pbv_one (psv_set (p := true) (i := 2) (fun _ h => ps_set (i := 2) sc__law_feed.nd rfl (.inl rfl) h) (pev_bin okIx (fun _ _ ha hb => pe_ix ix_seq ha hb (fun _ _ => rfl)) (pev_var (pv 0) rfl) (pev_var (pv 1) rfl)) rfl))
  pbv_nil)
  (pbv_cons (psv_set (p := true) (i := 3) (fun _ h => ps_set (i := 3) sc__law_feed.nd rfl (.inl rfl) h) pev_int rfl)
  (pbv_cons (psv_if (p := true) (ptv_bin okGe (fun _ _ ha hb => pt_cmpR op_ge ha hb (nomark _)) (pev_abs rfl (T.free 17) (pev_var (pv 2) rfl)) (pev_bin okPow (fun _ _ ha hb => pe_op op_pow ha hb) pev_int pev_int))
  (pbv_one (psv_set (p := true) (i := 3) (fun _ h => ps_set (i := 3) sc__law_feed.nd rfl (.inl rfl) h) (pev_bin okSub (fun _ _ ha hb => pe_op op_sub ha hb) (pev_abs rfl (T.free 17) (pev_var (pv 2) rfl)) (pev_bin okPow (fun _ _ ha hb => pe_op op_pow ha hb) pev_int pev_int)) rfl))
  pbv_nil)
  (pbv_one (psv_retO (p := true) (pev_lstO (pav_cons (pev_var (pv 3) rfl) (pav_cons (pev_bin okMod (fun _ _ ha hb => pe_op op_mod ha hb) (pev_bin okAdd (fun _ _ ha hb => pe_op op3Add ha hb) (pev_bin okAdd (fun _ _ ha hb => pe_op op3Add ha hb) (pev_bin okMul (fun _ _ ha hb => pe_op op3Mul ha hb) (pev_var (pv 2) rfl) pev_int) (pev_bin okMul (fun _ _ ha hb => pe_op op3Mul ha hb) pev_int (pev_var (pv 1) rfl))) pev_int) pev_int) pav_nil)))))))))
theorem ok__law_feed (T : TxL fa fn K mg) : ∃ fd, FunD K "_law_feed" "_law_feed" (defArgs s__law_feed) (defBody s__law_feed) (defScope s__law_feed) [] [] (fAd K ("_law_feed", none)) fd ∧ FnOk P w K mg base (L2.CX P w) 1 (fAd K ("_law_feed", none)) fd ["script", "k"] (spv K mg ofl true 2 fe__law_feed) ∧ Binds K fd ["script", "k"] [] := by
  obtain ⟨fd, F0⟩ := T.says.def_ 0 (d := dd__law_feed) rfl
  have F : FunD K "_law_feed" "_law_feed" (defArgs s__law_feed) (defBody s__law_feed) (defScope s__law_feed) [] [] (fAd K ("_law_feed", none)) fd := F0
  have G := def_okD (P := P) (w := w) (K := K) (mg := mg) (base := base) (ofl := ofl) (st := s__law_feed) (N := N__law_feed) (ps := ["script", "k"]) (k := 0) (ow := []) (ow' := []) (ro := true) (ev := ev__law_feed) F sc__law_feed (by decide) (fun _ => nx__law_feed) (fun cdv A outer s H E hr => bd__law_feed T cdv A outer s H E hr)
  exact ⟨fd, F, G, FunD.bindsN F (ps := ["script", "k"]) fun _ _ _ _ _ _ us hl => match us, hl with | [_, _], _ => rfl⟩
/-! ### Room.__init__ -/
abbrev s_Room_ini : Stmt := inClass (top 4) 0
abbrev N_Room_ini : List Str := ["self"]
theorem sc_Room_ini : FnScope N_Room_ini ["self"] (defScope s_Room_ini) := ⟨rfl, rfl, rfl, by decide +kernel, rfl, by decide +kernel, by decide +kernel⟩
noncomputable def ev_Room_ini : Sv := (sFldS "Room" "stretches" 0 (eLst aNil))
noncomputable def fe_Room_ini : List D → Mem → R D := fnv 1 1 ev_Room_ini
theorem bd_Room_ini (T : TxL fa fn K mg)
 {f : Addr} (cdv : Value) (A : Around) (outer : List Env) (s : Shared) (H : Hp) (E : XK) (hr : Room 0 (A.deeper (envOfC "Room.__init__" (defScope s_Room_ini) s.heap.objs.size f cdv))) :
    PBv ofl (cxOf (L2.CX P w) P w K mg base N_Room_ini "Room.__init__" (defScope s_Room_ini) f cdv A outer s H E) (WB E) [] [] false (defBody s_Room_ini) ev_Room_ini :=
  (pbv_one (psv_fldO (p := true) (T.glo 1) (T.cls 7) (T.noat 18) (by decide +kernel) (pv 0) rfl (pev_lstO pav_nil)))
theorem ok_Room_ini (T : TxL fa fn K mg) : ∃ fd, FunD K "__init__" "Room.__init__" (defArgs s_Room_ini) (defBody s_Room_ini) (defScope s_Room_ini) [] [] (fAd K ("Room", some "__init__")) fd ∧ FnOk P w K mg base (L2.CX P w) 1 (fAd K ("Room", some "__init__")) fd ["self"] (spv K mg ofl false 1 fe_Room_ini) ∧ Binds K fd ["self"] [] := by
  obtain ⟨fd, F0⟩ := T.says.def_ 1 (d := dd_Room_ini) rfl
  have F : FunD K "__init__" "Room.__init__" (defArgs s_Room_ini) (defBody s_Room_ini) (defScope s_Room_ini) [] [] (fAd K ("Room", some "__init__")) fd := F0
  have G := def_okD (P := P) (w := w) (K := K) (mg := mg) (base := base) (ofl := ofl) (st := s_Room_ini) (N := N_Room_ini) (ps := ["self"]) (k := 0) (ow := []) (ow' := []) (ro := false) (ev := ev_Room_ini) F sc_Room_ini (by decide) (fun h => nomatch h) (fun cdv A outer s H E hr => bd_Room_ini T cdv A outer s H E hr)
  exact ⟨fd, F, G, FunD.bindsN F (ps := ["self"]) fun _ _ _ _ _ _ us hl => match us, hl with | [_], _ => rfl⟩
/-! ### _law_take -/
abbrev s__law_take : Stmt := top 7
abbrev N__law_take : List Str := ["feed", "many", "found"]
theorem sc__law_take : FnScope N__law_take ["feed", "many"] (defScope s__law_take) := ⟨rfl, rfl, rfl, by decide +kernel, rfl, by decide +kernel, by decide +kernel⟩
noncomputable def ev__law_take : Sv := (sSeq (sIf (tOf (eBin dGt (eBin dIx (eVar 0) (eC (.int 0))) (eC (.int 0))))
  (sSeq (sSet 2 (eBin dMod (eBin dIx (eVar 0) (eC (.int 0))) (eVar 1)))
  (sSeq (sPutM pLst (eVar 0) (eC (.int 0)) (eBin dDiv (eBin dIx (eVar 0) (eC (.int 0))) (eVar 1)))
  (sRet (eVar 2))))
  sNx)
  (sSeq (sPutM pLst (eVar 0) (eC (.int 1)) (eBin dMod (eBin dAdd (eBin dMul (eBin dIx (eVar 0) (eC (.int 1))) (eC (.int 48271))) (eC (.int 12345))) (eC (.int 2305843009213693951))))
  (sRet (eBin dMod (eBin dDiv (eBin dIx (eVar 0) (eC (.int 1))) (eC (.int 2097152))) (eVar 1)))))
noncomputable def fe__law_take : List D → Mem → R D := fnv 2 3 ev__law_take
theorem bd__law_take (T : TxL fa fn K mg)
 {f : Addr} (cdv : Value) (A : Around) (outer : List Env) (s : Shared) (H : Hp) (E : XK) (hr : Room 0 (A.deeper (envOfC "_law_take" (defScope s__law_take) s.heap.objs.size f cdv))) :
    PBv ofl (cxOf (L2.CX P w) P w K mg base N__law_take "_law_take" (defScope s__law_take) f cdv A outer s H E) (WB E) [] [] false (defBody s__law_take) ev__law_take :=
  (pbv_cons (psv_if (p := true) (ptv_bin okGt (fun _ _ ha hb => pt_cmpR op_gt ha hb (nomark _)) (pev_bin okIx (fun _ _ ha hb => pe_ix ix_seq ha hb (fun _ _ => rfl)) (pev_var (pv 0) rfl) pev_int) pev_int)
  (pbv_cons (psv_set (p := true) (i := 2) (fun _ h => ps_set (i := 2) sc__law_take.nd rfl (.inl rfl) h) (pev_bin okMod (fun _ _ ha hb => pe_op op_mod ha hb) (pev_bin okIx (fun _ _ ha hb => pe_ix ix_seq ha hb (fun _ _ => rfl)) (pev_var (pv 0) rfl) pev_int) (pev_var (pv 1) rfl)) rfl)
  (pbv_cons (psv_putM (p := true) okPutL (fun _ _ _ ho hi he => ps_asg he (pg_sub ho hi set_list)) (pev_var (pv 0) rfl) pev_int (pev_bin okDiv (fun _ _ ha hb => pe_op op_fdivW ha hb) (pev_bin okIx (fun _ _ ha hb => pe_ix ix_seq ha hb (fun _ _ => rfl)) (pev_var (pv 0) rfl) pev_int) (pev_var (pv 1) rfl)))
  (pbv_one (psv_ret (p := true) (pev_var (pv 2) rfl)))))
  pbv_nil)
  (pbv_cons (psv_putM (p := true) okPutL (fun _ _ _ ho hi he => ps_asg he (pg_sub ho hi set_list)) (pev_var (pv 0) rfl) pev_int (pev_bin okMod (fun _ _ ha hb => pe_op op_mod ha hb) (pev_bin okAdd (fun _ _ ha hb => pe_op op3Add ha hb) (pev_bin okMul (fun _ _ ha hb => pe_op op3Mul ha hb) (pev_bin okIx (fun _ _ ha hb => pe_ix ix_seq ha hb (fun _ _ => rfl)) (pev_var (pv 0) rfl) pev_int) pev_int) pev_int) pev_int))
  (pbv_one (psv_ret (p := true) (pev_bin okMod (fun _ _ ha hb => pe_op op_mod ha hb) (pev_bin okDiv (fun _ _ ha hb => pe_op op_fdivW ha hb) (pev_bin okIx (fun _ _ ha hb => pe_ix ix_seq ha hb (fun _ _ => rfl)) (pev_var (pv 0) rfl) pev_int) pev_int) (pev_var (pv 1) rfl))))))
theorem ok__law_take (T : TxL fa fn K mg) : ∃ fd, FunD K "_law_take" "_law_take" (defArgs s__law_take) (defBody s__law_take) (defScope s__law_take) [] [] (fAd K ("_law_take", none)) fd ∧ FnOk P w K mg base (L2.CX P w) 1 (fAd K ("_law_take", none)) fd ["feed", "many"] (spv K mg ofl false 2 fe__law_take) ∧ Binds K fd ["feed", "many"] [] := by
  obtain ⟨fd, F0⟩ := T.says.def_ 2 (d := dd__law_take) rfl
  have F : FunD K "_law_take" "_law_take" (defArgs s__law_take) (defBody s__law_take) (defScope s__law_take) [] [] (fAd K ("_law_take", none)) fd := F0
  have G := def_okD (P := P) (w := w) (K := K) (mg := mg) (base := base) (ofl := ofl) (st := s__law_take) (N := N__law_take) (ps := ["feed", "many"]) (k := 0) (ow := []) (ow' := []) (ro := false) (ev := ev__law_take) F sc__law_take (by decide) (fun h => nomatch h) (fun cdv A outer s H E hr => bd__law_take T cdv A outer s H E hr)
  exact ⟨fd, F, G, FunD.bindsN F (ps := ["feed", "many"]) fun _ _ _ _ _ _ us hl => match us, hl with | [_, _], _ => rfl⟩
/-! ### _law_pick -/
abbrev s__law_pick : Stmt := top 8
abbrev N__law_pick : List Str := ["feed", "some"]
theorem sc__law_pick : FnScope N__law_pick ["feed", "some"] (defScope s__law_pick) := ⟨rfl, rfl, rfl, by decide +kernel, rfl, by decide +kernel, by decide +kernel⟩
noncomputable def ev__law_pick : Sv := (sRet (eBin dIx (eVar 1) (eCall fe__law_take (aCons (eVar 0) (aCons (eUn dLen (eVar 1)) aNil)))))
noncomputable def fe__law_pick : List D → Mem → R D := fnv 2 2 ev__law_pick
theorem bd__law_pick (T : TxL fa fn K mg)
 {fd__law_take : FuncData} (F__law_take : FunD K "_law_take" "_law_take" (defArgs s__law_take) (defBody s__law_take) (defScope s__law_take) [] [] (fAd K ("_law_take", none)) fd__law_take) (G__law_take : FnOk P w K mg base (L2.CX P w) 1 (fAd K ("_law_take", none)) fd__law_take ["feed", "many"] (spv K mg ofl false 2 fe__law_take)) (b__law_take : Binds K fd__law_take ["feed", "many"] [])
 {f : Addr} (cdv : Value) (A : Around) (outer : List Env) (s : Shared) (H : Hp) (E : XK) (hr : Room 1 (A.deeper (envOfC "_law_pick" (defScope s__law_pick) s.heap.objs.size f cdv))) :
    PBv ofl (cxOf (L2.CX P w) P w K mg base N__law_pick "_law_pick" (defScope s__law_pick) f cdv A outer s H E) (WB E) [] [] false (defBody s__law_pick) ev__law_pick :=
  (pbv_one (psv_ret (p := false) (pev_bin okIx (fun _ _ ha hb => pe_ix ix_seq ha hb (fun _ _ => rfl)) (pev_var (pv 1) rfl) (pev_callG (ro := false) G__law_take (hr.mono (by decide)) rfl (T.glo 3) F__law_take.kp b__law_take takesB (pav_cons (pev_var (pv 0) rfl) (pav_cons (pev_len rfl (T.free 16) (pev_var (pv 1) rfl)) pav_nil)) (aCons_len (aCons_len aNil_len))))))
theorem ok__law_pick (T : TxL fa fn K mg) : ∃ fd, FunD K "_law_pick" "_law_pick" (defArgs s__law_pick) (defBody s__law_pick) (defScope s__law_pick) [] [] (fAd K ("_law_pick", none)) fd ∧ FnOk P w K mg base (L2.CX P w) 2 (fAd K ("_law_pick", none)) fd ["feed", "some"] (spv K mg ofl false 2 fe__law_pick) ∧ Binds K fd ["feed", "some"] [] := by
  obtain ⟨fd__law_take, F__law_take, G__law_take, b__law_take⟩ := ok__law_take (P := P) (w := w) (base := base) T
  obtain ⟨fd, F0⟩ := T.says.def_ 3 (d := dd__law_pick) rfl
  have F : FunD K "_law_pick" "_law_pick" (defArgs s__law_pick) (defBody s__law_pick) (defScope s__law_pick) [] [] (fAd K ("_law_pick", none)) fd := F0
  have G := def_okD (P := P) (w := w) (K := K) (mg := mg) (base := base) (ofl := ofl) (st := s__law_pick) (N := N__law_pick) (ps := ["feed", "some"]) (k := 1) (ow := []) (ow' := []) (ro := false) (ev := ev__law_pick) F sc__law_pick (by decide) (fun h => nomatch h) (fun cdv A outer s H E hr => bd__law_pick T F__law_take G__law_take b__law_take cdv A outer s H E hr)
  exact ⟨fd, F, G, FunD.bindsN F (ps := ["feed", "some"]) fun _ _ _ _ _ _ us hl => match us, hl with | [_, _], _ => rfl⟩
/-! ### _law_place -/
abbrev s__law_place : Stmt := top 10
abbrev N__law_place : List Str := ["taken", "length", "at", "start", "size"]
theorem sc__law_place : FnScope N__law_place ["taken", "length"] (defScope s__law_place) := ⟨rfl, rfl, rfl, by decide +kernel, rfl, by decide +kernel, by decide +kernel⟩
noncomputable def ev__law_place : Sv := (sSeq (sSet 2 (eC (.int 0)))
  (sSeq (sFor (iSeq (eVar 0)) (gT 2 (gMore (gN 3) (gMore (gN 4) gNone)))
  (sIf (tOf (eBin dLt (eVar 3) (eBin dAdd (eVar 2) (eVar 1))))
  (sSet 2 (eBin dAdd (eVar 3) (eVar 4)))
  sNx))
  (sRet (eVar 2))))
noncomputable def fe__law_place : List D → Mem → R D := fnv 2 5 ev__law_place
theorem bd__law_place (T : TxL fa fn K mg)
 {f : Addr} (cdv : Value) (A : Around) (outer : List Env) (s : Shared) (H : Hp) (E : XK) (hr : Room 0 (A.deeper (envOfC "_law_place" (defScope s__law_place) s.heap.objs.size f cdv))) :
    PBv ofl (cxOf (L2.CX P w) P w K mg base N__law_place "_law_place" (defScope s__law_place) f cdv A outer s H E) (WB E) [] [] false (defBody s__law_place) ev__law_place :=
  (pbv_cons (psv_set (p := true) (i := 2) (fun _ h => ps_set (i := 2) sc__law_place.nd rfl (.inl rfl) h) pev_int rfl)
  (pbv_cons (psv_for (p := true) passB rfl (piv_seq (pev_var (pv 0) rfl)) (pgv_tup rfl (pgsv_cons (pgv_name (pg_name (i := 3) sc__law_place.nd rfl (.inl rfl)) rfl) (pgsv_cons (pgv_name (pg_name (i := 4) sc__law_place.nd rfl (.inl rfl)) rfl) pgsv_nil)))
  (pbv_one (psv_if (p := true) (ptv_bin okLt (fun _ _ ha hb => pt_cmpR op_lt ha hb (nomark _)) (pev_var (pv 3) rfl) (pev_bin okAdd (fun _ _ ha hb => pe_op op3Add ha hb) (pev_var (pv 2) rfl) (pev_var (pv 1) rfl)))
  (pbv_one (psv_set (p := true) (i := 2) (fun _ h => ps_set (i := 2) sc__law_place.nd rfl (.inl rfl) h) (pev_bin okAdd (fun _ _ ha hb => pe_op op3Add ha hb) (pev_var (pv 3) rfl) (pev_var (pv 4) rfl)) rfl))
  pbv_nil)))
  (pbv_one (psv_ret (p := true) (pev_var (pv 2) rfl)))))
theorem ok__law_place (T : TxL fa fn K mg) : ∃ fd, FunD K "_law_place" "_law_place" (defArgs s__law_place) (defBody s__law_place) (defScope s__law_place) [] [] (fAd K ("_law_place", none)) fd ∧ FnOk P w K mg base (L2.CX P w) 1 (fAd K ("_law_place", none)) fd ["taken", "length"] (spv K mg ofl false 2 fe__law_place) ∧ Binds K fd ["taken", "length"] [] := by
  obtain ⟨fd, F0⟩ := T.says.def_ 4 (d := dd__law_place) rfl
  have F : FunD K "_law_place" "_law_place" (defArgs s__law_place) (defBody s__law_place) (defScope s__law_place) [] [] (fAd K ("_law_place", none)) fd := F0
  have G := def_okD (P := P) (w := w) (K := K) (mg := mg) (base := base) (ofl := ofl) (st := s__law_place) (N := N__law_place) (ps := ["taken", "length"]) (k := 0) (ow := []) (ow' := []) (ro := false) (ev := ev__law_place) F sc__law_place (by decide) (fun h => nomatch h) (fun cdv A outer s H E hr => bd__law_place T cdv A outer s H E hr)
  exact ⟨fd, F, G, FunD.bindsN F (ps := ["taken", "length"]) fun _ _ _ _ _ _ us hl => match us, hl with | [_, _], _ => rfl⟩
/-! ### Room.take -/
abbrev s_Room_take : Stmt := inClass (top 4) 1
abbrev N_Room_take : List Str := ["self", "length", "at", "place"]
theorem sc_Room_take : FnScope N_Room_take ["self", "length"] (defScope s_Room_take) := ⟨rfl, rfl, rfl, by decide +kernel, rfl, by decide +kernel, by decide +kernel⟩
noncomputable def ev_Room_take : Sv := (sSeq (sSet 2 (eC (.int 0)))
  (sSeq (sSet 3 (eC (.int 0)))
  (sSeq (sWhile (tAnd (tOf (eBin dLt (eVar 3) (eUn dLen (eFld "Room" "stretches" (eVar 0))))) (tOf (eBin dLt (eBin dIx (eBin dIx (eFld "Room" "stretches" (eVar 0)) (eVar 3)) (eC (.int 0))) (eBin dAdd (eVar 2) (eVar 1)))))
  (sSeq (sSet 2 (eBin dAdd (eBin dIx (eBin dIx (eFld "Room" "stretches" (eVar 0)) (eVar 3)) (eC (.int 0))) (eBin dIx (eBin dIx (eFld "Room" "stretches" (eVar 0)) (eVar 3)) (eC (.int 1)))))
  (sAug dAddI 3 (eC (.int 1)))))
  (sSeq (sMutF D.isLst mIns "Room" "stretches" 0 (aCons (eVar 3) (aCons (eTup (aCons (eVar 2) (aCons (eVar 1) aNil))) aNil)))
  (sRet (eVar 2))))))
noncomputable def fe_Room_take : List D → Mem → R D := fnv 2 4 ev_Room_take
theorem bd_Room_take (T : TxL fa fn K mg)
 {f : Addr} (cdv : Value) (A : Around) (outer : List Env) (s : Shared) (H : Hp) (E : XK) (hr : Room 0 (A.deeper (envOfC "Room.take" (defScope s_Room_take) s.heap.objs.size f cdv))) :
    PBv ofl (cxOf (L2.CX P w) P w K mg base N_Room_take "Room.take" (defScope s_Room_take) f cdv A outer s H E) (WB E) [] [] false (defBody s_Room_take) ev_Room_take :=
  (pbv_cons (psv_set (p := true) (i := 2) (fun _ h => ps_set (i := 2) sc_Room_take.nd rfl (.inl rfl) h) pev_int rfl)
  (pbv_cons (psv_set (p := true) (i := 3) (fun _ h => ps_set (i := 3) sc_Room_take.nd rfl (.inl rfl) h) pev_int rfl)
  (pbv_cons (psv_while (p := true) passB (ptv_w (pwv_and (ptv_bin okLt (fun _ _ ha hb => pt_cmpR op_lt ha hb (nomark _)) (pev_var (pv 3) rfl) (pev_len rfl (T.free 16) (pev_fldO (T.glo 1) (T.cls 7) (T.noat 18) (by decide +kernel) (pev_var (pv 0) rfl)))) (pwv_and1 (ptv_bin okLt (fun _ _ ha hb => pt_cmpR op_lt ha hb (nomark _)) (pev_bin okIx (fun _ _ ha hb => pe_ix ix_seq ha hb (fun _ _ => rfl)) (pev_bin okIx (fun _ _ ha hb => pe_ix ix_seq ha hb (fun _ _ => rfl)) (pev_fldO (T.glo 1) (T.cls 7) (T.noat 18) (by decide +kernel) (pev_var (pv 0) rfl)) (pev_var (pv 3) rfl)) pev_int) (pev_bin okAdd (fun _ _ ha hb => pe_op op3Add ha hb) (pev_var (pv 2) rfl) (pev_var (pv 1) rfl))))))
  (pbv_cons (psv_set (p := true) (i := 2) (fun _ h => ps_set (i := 2) sc_Room_take.nd rfl (.inl rfl) h) (pev_bin okAdd (fun _ _ ha hb => pe_op op3Add ha hb) (pev_bin okIx (fun _ _ ha hb => pe_ix ix_seq ha hb (fun _ _ => rfl)) (pev_bin okIx (fun _ _ ha hb => pe_ix ix_seq ha hb (fun _ _ => rfl)) (pev_fldO (T.glo 1) (T.cls 7) (T.noat 18) (by decide +kernel) (pev_var (pv 0) rfl)) (pev_var (pv 3) rfl)) pev_int) (pev_bin okIx (fun _ _ ha hb => pe_ix ix_seq ha hb (fun _ _ => rfl)) (pev_bin okIx (fun _ _ ha hb => pe_ix ix_seq ha hb (fun _ _ => rfl)) (pev_fldO (T.glo 1) (T.cls 7) (T.noat 18) (by decide +kernel) (pev_var (pv 0) rfl)) (pev_var (pv 3) rfl)) pev_int)) rfl)
  (pbv_one (psv_aug (p := true) okAddI (fun _ h => ps_aug (i := 3) sc_Room_take.nd rfl (.inl rfl) h ip_add) pev_int rfl))))
  (pbv_cons (psv_mutF (i := 0) okIns (fun _ _ _ _ _ c h => ty_lst c h) (T.glo 1) (T.cls 7) (T.noat 18) (by decide +kernel) (pv 0) rfl (fun _ _ ho h => ps_expr (pe_bm PySem.F.plainAttrs_list PySem.F.slot_list_insert PySem.F.type_list_insert mtInsert ho h)) (pav_cons (pev_var (pv 3) rfl) (pav_cons (pev_tup (pav_cons (pev_var (pv 2) rfl) (pav_cons (pev_var (pv 1) rfl) pav_nil))) pav_nil)))
  (pbv_one (psv_ret (p := true) (pev_var (pv 2) rfl)))))))
theorem ok_Room_take (T : TxL fa fn K mg) : ∃ fd, FunD K "take" "Room.take" (defArgs s_Room_take) (defBody s_Room_take) (defScope s_Room_take) [] [] (fAd K ("Room", some "take")) fd ∧ FnOk P w K mg base (L2.CX P w) 1 (fAd K ("Room", some "take")) fd ["self", "length"] (spv K mg ofl false 2 fe_Room_take) ∧ Binds K fd ["self", "length"] [] := by
  obtain ⟨fd, F0⟩ := T.says.def_ 5 (d := dd_Room_take) rfl
  have F : FunD K "take" "Room.take" (defArgs s_Room_take) (defBody s_Room_take) (defScope s_Room_take) [] [] (fAd K ("Room", some "take")) fd := F0
  have G := def_okD (P := P) (w := w) (K := K) (mg := mg) (base := base) (ofl := ofl) (st := s_Room_take) (N := N_Room_take) (ps := ["self", "length"]) (k := 0) (ow := []) (ow' := []) (ro := false) (ev := ev_Room_take) F sc_Room_take (by decide) (fun h => nomatch h) (fun cdv A outer s H E hr => bd_Room_take T cdv A outer s H E hr)
  exact ⟨fd, F, G, FunD.bindsN F (ps := ["self", "length"]) fun _ _ _ _ _ _ us hl => match us, hl with | [_, _], _ => rfl⟩
/-! ### _law_whole -/
abbrev s__law_whole : Stmt := top 9
abbrev N__law_whole : List Str := ["found"]
theorem sc__law_whole : FnScope N__law_whole ["found"] (defScope s__law_whole) := ⟨rfl, rfl, rfl, by decide +kernel, rfl, by decide +kernel, by decide +kernel⟩
noncomputable def ev__law_whole : Sv := (sRet (eAnd (eUn isiInt (eVar 0)) (eNot (eUn isiBool (eVar 0)))))
noncomputable def fe__law_whole : List D → Mem → R D := fnv 1 1 ev__law_whole
theorem bd__law_whole (T : TxL fa fn K mg)
 {f : Addr} (cdv : Value) (A : Around) (outer : List Env) (s : Shared) (H : Hp) (E : XK) (hr : Room 0 (A.deeper (envOfC "_law_whole" (defScope s__law_whole) s.heap.objs.size f cdv))) :
    PBv ofl (cxOf (L2.CX P w) P w K mg base N__law_whole "_law_whole" (defScope s__law_whole) f cdv A outer s H E) (WB E) [] [] false (defBody s__law_whole) ev__law_whole :=
  (pbv_one (psv_ret (p := true) (pev_and (pev_isT okIsiInt rfl (T.free 19) rfl (T.free 20) PyProof.Rows.Boot.«int» (pev_var (pv 0) rfl)) (pev_one (pev_not (pev_isT okIsiBool rfl (T.free 19) rfl (T.free 21) PyProof.Rows.Boot.«bool» (pev_var (pv 0) rfl)))))))
theorem ok__law_whole (T : TxL fa fn K mg) : ∃ fd, FunD K "_law_whole" "_law_whole" (defArgs s__law_whole) (defBody s__law_whole) (defScope s__law_whole) [] [] (fAd K ("_law_whole", none)) fd ∧ FnOk P w K mg base (L2.CX P w) 1 (fAd K ("_law_whole", none)) fd ["found"] (spv K mg ofl false 1 fe__law_whole) ∧ Binds K fd ["found"] [] := by
  obtain ⟨fd, F0⟩ := T.says.def_ 6 (d := dd__law_whole) rfl
  have F : FunD K "_law_whole" "_law_whole" (defArgs s__law_whole) (defBody s__law_whole) (defScope s__law_whole) [] [] (fAd K ("_law_whole", none)) fd := F0
  have G := def_okD (P := P) (w := w) (K := K) (mg := mg) (base := base) (ofl := ofl) (st := s__law_whole) (N := N__law_whole) (ps := ["found"]) (k := 0) (ow := []) (ow' := []) (ro := false) (ev := ev__law_whole) F sc__law_whole (by decide) (fun h => nomatch h) (fun cdv A outer s H E hr => bd__law_whole T cdv A outer s H E hr)
  exact ⟨fd, F, G, FunD.bindsN F (ps := ["found"]) fun _ _ _ _ _ _ us hl => match us, hl with | [_], _ => rfl⟩
abbrev s_NotTaken_ini : Stmt := inClass (top 1) 0
abbrev N_NotTaken_ini : List Str := ["self", "at"]
theorem sc_NotTaken_ini : FnScope N_NotTaken_ini ["self", "at"] (defScope s_NotTaken_ini) := ⟨rfl, rfl, rfl, by decide +kernel, rfl, by decide +kernel, by decide +kernel⟩
theorem ok_NotTaken_ini (T : TxL fa fn K mg) : ∃ fd, FunD K "__init__" "NotTaken.__init__" (defArgs s_NotTaken_ini) (defBody s_NotTaken_ini) (defScope s_NotTaken_ini) [] [] (fAd K ("NotTaken", some "__init__")) fd ∧ FnOk P w K mg base (L2.CX P w) 1 (fAd K ("NotTaken", some "__init__")) fd ["self", "at"] (spX1 K [.type "IndexError", .type "LookupError", .type "Exception", .type "BaseException", .type "object"] "IndexError.__new__" "at") ∧ Binds K fd ["self", "at"] [] := by
  obtain ⟨fd, F⟩ := T.says.def_ 7 (d := dd_NotTaken_ini) rfl
  refine ⟨fd, F, xinit1_ok (msg := "nothing taken there") (funD_fun F) sc_NotTaken_ini rfl rfl (fun cdv A outer s H E => ?_), FunD.bindsN F (ps := ["self", "at"]) fun _ _ _ _ _ _ us hl => match us, hl with | [_, _], _ => rfl⟩
  exact pss_cons (ps_expr (LaX.pe_xini PySem.F.excBase_IndexError rfl (T.free 26) PyProof.Rows.Boot.«IndexError» (by kernel_rfl) (by decide +kernel) (T.vin 27) (by decide +kernel) (pa_cons (pv 0) (pa_cons pe_str pa_nil)) (by decide) (by decide) rfl)) (pss_one (LaX.ps_xset PySem.F.store_IndexError (pv 0) (pv 1)))
/-! ### Room.give_back -/
abbrev s_Room_give_back : Stmt := inClass (top 4) 2
abbrev N_Room_give_back : List Str := ["self", "at", "left", "one"]
theorem sc_Room_give_back : FnScope N_Room_give_back ["self", "at"] (defScope s_Room_give_back) := ⟨rfl, rfl, rfl, by decide +kernel, rfl, by decide +kernel, by decide +kernel⟩
noncomputable def ev_Room_give_back : Sv := (sSeq (sSet 2 (eLc (iSeqM (eFld "Room" "stretches" (eVar 0))) [3] (gN 3) (tOf (eBin dNeo (eBin dIx (eVar 3) (eC (.int 0))) (eVar 1))) (eVar 3)))
  (sSeq (sIf (tOf (eBin dEqo (eUn dLen (eVar 2)) (eUn dLen (eFld "Room" "stretches" (eVar 0)))))
  (sRaise "NotTaken" (mk1 "at") (aCons (eVar 1) aNil))
  sNx)
  (sFldT "Room" "stretches" 0 2)))
noncomputable def fe_Room_give_back : List D → Mem → R D := fnv 2 4 ev_Room_give_back
theorem bd_Room_give_back (T : TxL fa fn K mg)
 {fd_NotTaken_ini : FuncData} (F_NotTaken_ini : FunD K "__init__" "NotTaken.__init__" (defArgs s_NotTaken_ini) (defBody s_NotTaken_ini) (defScope s_NotTaken_ini) [] [] (fAd K ("NotTaken", some "__init__")) fd_NotTaken_ini) (G_NotTaken_ini : FnOk P w K mg base (L2.CX P w) 1 (fAd K ("NotTaken", some "__init__")) fd_NotTaken_ini ["self", "at"] (spX1 K [.type "IndexError", .type "LookupError", .type "Exception", .type "BaseException", .type "object"] "IndexError.__new__" "at")) (b_NotTaken_ini : Binds K fd_NotTaken_ini ["self", "at"] [])
 {f : Addr} (cdv : Value) (A : Around) (outer : List Env) (s : Shared) (H : Hp) (E : XK) (hr : Room 2 (A.deeper (envOfC "Room.give_back" (defScope s_Room_give_back) s.heap.objs.size f cdv))) :
    PBv ofl (cxOf (L2.CX P w) P w K mg base N_Room_give_back "Room.give_back" (defScope s_Room_give_back) f cdv A outer s H E) (WB E) [2] [2] false (defBody s_Room_give_back) ev_Room_give_back :=
  (pbv_cons (psv_setLcO (p := true) (i := 2) (own := [("one", 3)]) rfl sc_Room_give_back.nd rfl rfl (sw_true rfl rfl rfl (by decide +kernel)) (pis_now (pev_fldO (T.glo 1) (T.cls 7) (T.noat 18) (by decide +kernel) (pev_var (pv 0) rfl))) (blkOk_by (own := [("one", 3)]) (N := N_Room_give_back) (sc := defScope s_Room_give_back) (by decide +kernel)) (fun _ _ _ _ _ => (pgv_name (pg_name (i := 3) sc_Room_give_back.nd rfl (.inl rfl)) rfl)) (fun _ _ _ _ _ => (ptsv_one (ptv_bin okNeo (fun _ _ ha hb => pt_cmpR (op_neP hr.units) ha hb (nomark _)) (pev_bin okIx (fun _ _ ha hb => pe_ix ix_seq ha hb (fun _ _ => rfl)) (pev_var (pv 3) rfl) pev_int) (pev_var (pv 1) rfl)))) (fun _ _ _ _ _ => (pev_var (pv 3) rfl)) rfl)
  (pbv_cons (psv_if (p := true) (ptv_bin okEqo (fun _ _ ha hb => pt_cmpR (op_eqP hr.units) ha hb (nomark _)) (pev_len rfl (T.free 16) (pev_own (pv 2) rfl)) (pev_len rfl (T.free 16) (pev_fldO (T.glo 1) (T.cls 7) (T.noat 18) (by decide +kernel) (pev_var (pv 0) rfl))))
  (pbv_one (psv_raise1 (pu := true) PySem.F.excBase_IndexError (T.xcl 23) (T.xin 22).1 (T.xin 22).2 G_NotTaken_ini (hr.mono (by decide)) b_NotTaken_ini (passes0 _) rfl (T.glo 24) (T.tak 25) (pav_cons (pev_var (pv 1) rfl) pav_nil) rfl takesB))
  pbv_nil)
  (pbv_one (psv_fldT (i := 0) (j := 2) (T.glo 1) (T.cls 7) (T.noat 18) (by decide +kernel) (pv 0) rfl (pv 2) rfl))))
theorem ok_Room_give_back (T : TxL fa fn K mg) : ∃ fd, FunD K "give_back" "Room.give_back" (defArgs s_Room_give_back) (defBody s_Room_give_back) (defScope s_Room_give_back) [] [] (fAd K ("Room", some "give_back")) fd ∧ FnOk P w K mg base (L2.CX P w) 3 (fAd K ("Room", some "give_back")) fd ["self", "at"] (spv K mg ofl false 2 fe_Room_give_back) ∧ Binds K fd ["self", "at"] [] := by
  obtain ⟨fd_NotTaken_ini, F_NotTaken_ini, G_NotTaken_ini, b_NotTaken_ini⟩ := ok_NotTaken_ini (P := P) (w := w) (base := base) T
  obtain ⟨fd, F0⟩ := T.says.def_ 8 (d := dd_Room_give_back) rfl
  have F : FunD K "give_back" "Room.give_back" (defArgs s_Room_give_back) (defBody s_Room_give_back) (defScope s_Room_give_back) [] [] (fAd K ("Room", some "give_back")) fd := F0
  have G := def_okD (P := P) (w := w) (K := K) (mg := mg) (base := base) (ofl := ofl) (st := s_Room_give_back) (N := N_Room_give_back) (ps := ["self", "at"]) (k := 2) (ow := [2]) (ow' := [2]) (ro := false) (ev := ev_Room_give_back) F sc_Room_give_back (by decide) (fun h => nomatch h) (fun cdv A outer s H E hr => bd_Room_give_back T F_NotTaken_ini G_NotTaken_ini b_NotTaken_ini cdv A outer s H E hr)
  exact ⟨fd, F, G, FunD.bindsN F (ps := ["self", "at"]) fun _ _ _ _ _ _ us hl => match us, hl with | [_, _], _ => rfl⟩
/-! ### _law_refused -/
abbrev s__law_refused : Stmt := top 12
abbrev N__law_refused : List Str := ["room", "at", "caught", "e"]
theorem sc__law_refused : FnScope N__law_refused ["room", "at"] (defScope s__law_refused) := ⟨rfl, rfl, rfl, by decide +kernel, rfl, by decide +kernel, by decide +kernel⟩
noncomputable def ev__law_refused : Sv := (sSeq (sSet 2 (eC .non))
  (sSeq (sTry (sDo (eMeth "Room" "give_back" fe_Room_give_back (eVar 0) (aCons (eVar 1) aNil)))
  ((tabM [("NotTaken", true)], some 3, (sSet 2 (eVar 3))) :: []) true)
  (sSeq (sIf (tOr (tOf (eUn (dIsX (tabM [("NotTaken", false)]) (fun _ => false)) (eVar 2))) (tNot (tOf (eUn (dIsX (tabM [("NotTaken", true)]) (fun _ => false)) (eVar 2)))))
  (sRet (eC (.bl false)))
  sNx)
  (sRet (eAnd (eCall fe__law_whole (aCons (eUn (dXfs ["NotTaken"] "at") (eVar 2)) aNil)) (eBin dEqo (eUn (dXfs ["NotTaken"] "at") (eVar 2)) (eVar 1)))))))
noncomputable def fe__law_refused : List D → Mem → R D := fnv 2 4 ev__law_refused
theorem bd__law_refused (T : TxL fa fn K mg)
 {fd_Room_give_back : FuncData} (F_Room_give_back : FunD K "give_back" "Room.give_back" (defArgs s_Room_give_back) (defBody s_Room_give_back) (defScope s_Room_give_back) [] [] (fAd K ("Room", some "give_back")) fd_Room_give_back) (G_Room_give_back : FnOk P w K mg base (L2.CX P w) 3 (fAd K ("Room", some "give_back")) fd_Room_give_back ["self", "at"] (spv K mg ofl false 2 fe_Room_give_back)) (b_Room_give_back : Binds K fd_Room_give_back ["self", "at"] [])
 {fd__law_whole : FuncData} (F__law_whole : FunD K "_law_whole" "_law_whole" (defArgs s__law_whole) (defBody s__law_whole) (defScope s__law_whole) [] [] (fAd K ("_law_whole", none)) fd__law_whole) (G__law_whole : FnOk P w K mg base (L2.CX P w) 1 (fAd K ("_law_whole", none)) fd__law_whole ["found"] (spv K mg ofl false 1 fe__law_whole)) (b__law_whole : Binds K fd__law_whole ["found"] [])
 {f : Addr} (cdv : Value) (A : Around) (outer : List Env) (s : Shared) (H : Hp) (E : XK) (hr : Room 3 (A.deeper (envOfC "_law_refused" (defScope s__law_refused) s.heap.objs.size f cdv))) :
    PBv ofl (cxOf (L2.CX P w) P w K mg base N__law_refused "_law_refused" (defScope s__law_refused) f cdv A outer s H E) (WB E) [] [] false (defBody s__law_refused) ev__law_refused :=
  (pbv_cons (psv_set (p := true) (i := 2) (fun _ h => ps_set (i := 2) sc__law_refused.nd rfl (.inl rfl) h) pev_non rfl)
  (pbv_cons (psv_try (l := ((tabM [("NotTaken", true)], some 3, (sSet 2 (eVar 3))) :: [])) (e := true) rfl rfl takesB (fun W pn xe tkW hpW => (pbv_one (psv_do (p := false) (pev_meth (ro := false) (po := true) (pa := true) (T.glo 1) (T.cls 7) (T.meth 11) G_Room_give_back (hr.mono (by decide)) b_Room_give_back tkW (pev_var (pv 0) rfl) (pav_cons (pev_var (pv 1) rfl) pav_nil) (len1 (aCons_len aNil_len))))))
  (.as (i := 3) ⟨rfl, by decide, .inl (T.glo 24)⟩ (tabM_exm (all1 ⟨_, T.glo 24, T.exm 28⟩ all0)) sc__law_refused.nd rfl rfl (by decide) (fun _ _ => (pbv_one (psv_set (p := true) (i := 2) (fun _ h => ps_set (i := 2) sc__law_refused.nd rfl (.inl rfl) h) (pev_var (pv 3) rfl) rfl))) .nil))
  (pbv_cons (psv_if (p := true) (ptv_w (pwv_or (ptv_val (pev_isx (m := tabM [("NotTaken", false)]) (g := fun _ => false) rfl (T.free 19) PyProof.Rows.Boot.«isinstance» (pe_glob (v := .ref (ga K "Vacant")) rfl (T.glo 29) rfl) (.own _) (T.kits 30) (tabM_kit (all1 ⟨_, T.glo 24, (T.xk 31 (T.xcl 23)), T.kitG 32⟩ all0)) (pev_var (pv 2) rfl))) (pwv_or1 (ptv_not (ptv_val (pev_isx (m := tabM [("NotTaken", true)]) (g := fun _ => false) rfl (T.free 19) PyProof.Rows.Boot.«isinstance» (pe_bltn (v := .ty "IndexError") rfl (T.free 26) PyProof.Rows.Boot.«IndexError» rfl) (.ty _) (fun a ha => kit_ty ((by decide +kernel : ∀ a ∈ ["NoneType", "bool", "int", "str", "tuple", "list", "dict"], kitB a "IndexError" = some false) a ha)) (tabM_kit (all1 ⟨_, T.glo 24, (T.xk 31 (T.xcl 23)), T.kit 33⟩ all0)) (pev_var (pv 2) rfl)))))))
  (pbv_one (psv_ret (p := true) pev_bl))
  pbv_nil)
  (pbv_one (psv_ret (p := false) (pev_and (pev_callG (ro := false) G__law_whole (hr.mono (by decide)) rfl (T.glo 9) F__law_whole.kp b__law_whole takesB (pav_cons (pev_xf (cs := ["NotTaken"]) (all1 ⟨_, T.glo 24, TxL.xf (T.xcl 23), T.noat 34⟩ all0) (pev_var (pv 2) rfl)) pav_nil) (aCons_len aNil_len)) (pev_one (pev_bin okEqo (fun _ _ ha hb => pe_cmpR (op_eqP hr.units) ha hb (nomark _)) (pev_xf (cs := ["NotTaken"]) (all1 ⟨_, T.glo 24, TxL.xf (T.xcl 23), T.noat 34⟩ all0) (pev_var (pv 2) rfl)) (pev_var (pv 1) rfl)))))))))
theorem ok__law_refused (T : TxL fa fn K mg) : ∃ fd, FunD K "_law_refused" "_law_refused" (defArgs s__law_refused) (defBody s__law_refused) (defScope s__law_refused) [] [] (fAd K ("_law_refused", none)) fd ∧ FnOk P w K mg base (L2.CX P w) 4 (fAd K ("_law_refused", none)) fd ["room", "at"] (spv K mg ofl false 2 fe__law_refused) ∧ Binds K fd ["room", "at"] [] := by
  obtain ⟨fd_Room_give_back, F_Room_give_back, G_Room_give_back, b_Room_give_back⟩ := ok_Room_give_back (P := P) (w := w) (base := base) T
  obtain ⟨fd__law_whole, F__law_whole, G__law_whole, b__law_whole⟩ := ok__law_whole (P := P) (w := w) (base := base) T
  obtain ⟨fd, F0⟩ := T.says.def_ 9 (d := dd__law_refused) rfl
  have F : FunD K "_law_refused" "_law_refused" (defArgs s__law_refused) (defBody s__law_refused) (defScope s__law_refused) [] [] (fAd K ("_law_refused", none)) fd := F0
  have G := def_okD (P := P) (w := w) (K := K) (mg := mg) (base := base) (ofl := ofl) (st := s__law_refused) (N := N__law_refused) (ps := ["room", "at"]) (k := 3) (ow := []) (ow' := []) (ro := false) (ev := ev__law_refused) F sc__law_refused (by decide) (fun h => nomatch h) (fun cdv A outer s H E hr => bd__law_refused T F_Room_give_back G_Room_give_back b_Room_give_back F__law_whole G__law_whole b__law_whole cdv A outer s H E hr)
  exact ⟨fd, F, G, FunD.bindsN F (ps := ["room", "at"]) fun _ _ _ _ _ _ us hl => match us, hl with | [_, _], _ => rfl⟩
/-! ### Room.taken -/
abbrev s_Room_taken : Stmt := inClass (top 4) 3
abbrev N_Room_taken : List Str := ["self"]
theorem sc_Room_taken : FnScope N_Room_taken ["self"] (defScope s_Room_taken) := ⟨rfl, rfl, rfl, by decide +kernel, rfl, by decide +kernel, by decide +kernel⟩
noncomputable def ev_Room_taken : Sv := (sRet (eUn dList (eFld "Room" "stretches" (eVar 0))))
theorem nx_Room_taken : Nnx ev_Room_taken := (nnx_ret _)
noncomputable def fe_Room_taken : List D → Mem → R D := fnv 1 1 ev_Room_taken
theorem bd_Room_taken (T : TxL fa fn K mg)
 {f : Addr} (cdv : Value) (A : Around) (outer : List Env) (s : Shared) (H : Hp) (E : XK) (hr : Room 0 (A.deeper (envOfC "Room.taken" (defScope s_Room_taken) s.heap.objs.size f cdv))) :
    PBv ofl (cxOf (L2.CX P w) P w K mg base N_Room_taken "Room.taken" (defScope s_Room_taken) f cdv A outer s H E) (WB E) [] [] true (defBody s_Room_taken) ev_Room_taken :=
  (pbv_one (psv_retO (p := true) (pev_list rfl (T.free 15) (pev_fldO (T.glo 1) (T.cls 7) (T.noat 18) (by decide +kernel) (pev_var (pv 0) rfl)))))
theorem ok_Room_taken (T : TxL fa fn K mg) : ∃ fd, FunD K "taken" "Room.taken" (defArgs s_Room_taken) (defBody s_Room_taken) (defScope s_Room_taken) [] [] (fAd K ("Room", some "taken")) fd ∧ FnOk P w K mg base (L2.CX P w) 1 (fAd K ("Room", some "taken")) fd ["self"] (spv K mg ofl true 1 fe_Room_taken) ∧ Binds K fd ["self"] [] := by
  obtain ⟨fd, F0⟩ := T.says.def_ 10 (d := dd_Room_taken) rfl
  have F : FunD K "taken" "Room.taken" (defArgs s_Room_taken) (defBody s_Room_taken) (defScope s_Room_taken) [] [] (fAd K ("Room", some "taken")) fd := F0
  have G := def_okD (P := P) (w := w) (K := K) (mg := mg) (base := base) (ofl := ofl) (st := s_Room_taken) (N := N_Room_taken) (ps := ["self"]) (k := 0) (ow := []) (ow' := []) (ro := true) (ev := ev_Room_taken) F sc_Room_taken (by decide) (fun _ => nx_Room_taken) (fun cdv A outer s H E hr => bd_Room_taken T cdv A outer s H E hr)
  exact ⟨fd, F, G, FunD.bindsN F (ps := ["self"]) fun _ _ _ _ _ _ us hl => match us, hl with | [_], _ => rfl⟩
/-! ### Room.height -/
abbrev s_Room_height : Stmt := inClass (top 4) 4
abbrev N_Room_height : List Str := ["self", "at", "length"]
theorem sc_Room_height : FnScope N_Room_height ["self"] (defScope s_Room_height) := ⟨rfl, rfl, rfl, by decide +kernel, rfl, by decide +kernel, by decide +kernel⟩
noncomputable def ev_Room_height : Sv := (sSeq (sIf (tOf (eBin dEqo (eFld "Room" "stretches" (eVar 0)) (eLst aNil)))
  (sRet (eC (.int 0)))
  sNx)
  (sSeq (sAsg (gT 2 (gMore (gN 1) (gMore (gN 2) gNone))) (eBin dIx (eFld "Room" "stretches" (eVar 0)) (eUn dNeg (eC (.int 1)))))
  (sRet (eBin dAdd (eVar 1) (eVar 2)))))
noncomputable def fe_Room_height : List D → Mem → R D := fnv 1 3 ev_Room_height
theorem bd_Room_height (T : TxL fa fn K mg)
 {f : Addr} (cdv : Value) (A : Around) (outer : List Env) (s : Shared) (H : Hp) (E : XK) (hr : Room 0 (A.deeper (envOfC "Room.height" (defScope s_Room_height) s.heap.objs.size f cdv))) :
    PBv ofl (cxOf (L2.CX P w) P w K mg base N_Room_height "Room.height" (defScope s_Room_height) f cdv A outer s H E) (WB E) [] [] false (defBody s_Room_height) ev_Room_height :=
  (pbv_cons (psv_if (p := true) (ptv_bin okEqo (fun _ _ ha hb => pt_cmpR (op_eqP hr.units) ha hb (nomark _)) (pev_fldO (T.glo 1) (T.cls 7) (T.noat 18) (by decide +kernel) (pev_var (pv 0) rfl)) (pev_lstO pav_nil))
  (pbv_one (psv_ret (p := true) pev_int))
  pbv_nil)
  (pbv_cons (psv_asg (p := true) (pgv_tup rfl (pgsv_cons (pgv_name (pg_name (i := 1) sc_Room_height.nd rfl (.inl rfl)) rfl) (pgsv_cons (pgv_name (pg_name (i := 2) sc_Room_height.nd rfl (.inl rfl)) rfl) pgsv_nil))) (fun _ _ h g => ps_asg h g) (pev_bin okIx (fun _ _ ha hb => pe_ix ix_seq ha hb (fun _ _ => rfl)) (pev_fldO (T.glo 1) (T.cls 7) (T.noat 18) (by decide +kernel) (pev_var (pv 0) rfl)) (pev_neg pev_int)))
  (pbv_one (psv_ret (p := true) (pev_bin okAdd (fun _ _ ha hb => pe_op op3Add ha hb) (pev_var (pv 1) rfl) (pev_var (pv 2) rfl))))))
theorem ok_Room_height (T : TxL fa fn K mg) : ∃ fd, FunD K "height" "Room.height" (defArgs s_Room_height) (defBody s_Room_height) (defScope s_Room_height) [] [] (fAd K ("Room", some "height")) fd ∧ FnOk P w K mg base (L2.CX P w) 1 (fAd K ("Room", some "height")) fd ["self"] (spv K mg ofl false 1 fe_Room_height) ∧ Binds K fd ["self"] [] := by
  obtain ⟨fd, F0⟩ := T.says.def_ 11 (d := dd_Room_height) rfl
  have F : FunD K "height" "Room.height" (defArgs s_Room_height) (defBody s_Room_height) (defScope s_Room_height) [] [] (fAd K ("Room", some "height")) fd := F0
  have G := def_okD (P := P) (w := w) (K := K) (mg := mg) (base := base) (ofl := ofl) (st := s_Room_height) (N := N_Room_height) (ps := ["self"]) (k := 0) (ow := []) (ow' := []) (ro := false) (ev := ev_Room_height) F sc_Room_height (by decide) (fun h => nomatch h) (fun cdv A outer s H E hr => bd_Room_height T cdv A outer s H E hr)
  exact ⟨fd, F, G, FunD.bindsN F (ps := ["self"]) fun _ _ _ _ _ _ us hl => match us, hl with | [_], _ => rfl⟩
/-! ### _law_stands -/
abbrev s__law_stands : Stmt := top 11
abbrev N__law_stands : List Str := ["room", "taken", "turn", "told", "ends", "one"]
theorem sc__law_stands : FnScope N__law_stands ["room", "taken"] (defScope s__law_stands) := ⟨rfl, rfl, rfl, by decide +kernel, rfl, by decide +kernel, by decide +kernel⟩
noncomputable def ev__law_stands : Sv := (sSeq (sFor (iR1 (aCons (eC (.int 2)) aNil)) (gN 2)
  (sSeq (sSet 3 (eMeth "Room" "taken" fe_Room_taken (eVar 0) aNil))
  (sSeq (sIf (tOr (tNot (tOf (eUn isiList (eVar 3)))) (tOf (eBin dNeo (eVar 3) (eVar 1))))
  (sRet (eC (.bl false)))
  sNx)
  (sSeq (sIf (tNot (tOf (eUn dAll (eLc (iSeq (eVar 3)) [5] (gN 5) tTrue (eAnd (eCall fe__law_whole (aCons (eBin dIx (eVar 5) (eC (.int 0))) aNil)) (eCall fe__law_whole (aCons (eBin dIx (eVar 5) (eC (.int 1))) aNil)))))))
  (sRet (eC (.bl false)))
  sNx)
  (sSeq (sMutS D.isLst mApp 3 (aCons (eTup (aCons (eC (.int 0)) (aCons (eC (.int 1)) aNil))) aNil))
  (sMutS D.isLst mRev 3 aNil))))))
  (sSeq (sSet 4 (eLc (iSeq (eVar 1)) [5] (gN 5) tTrue (eBin dAdd (eBin dIx (eVar 5) (eC (.int 0))) (eBin dIx (eVar 5) (eC (.int 1))))))
  (sRet (eAnd (eCall fe__law_whole (aCons (eMeth "Room" "height" fe_Room_height (eVar 0) aNil) aNil)) (eBin dEqo (eMeth "Room" "height" fe_Room_height (eVar 0) aNil) (eUn dMaxL (eBin dAdd (eLst (aCons (eC (.int 0)) aNil)) (eVar 4))))))))
noncomputable def fe__law_stands : List D → Mem → R D := fnv 2 6 ev__law_stands
theorem bd__law_stands (T : TxL fa fn K mg)
 {fd_Room_taken : FuncData} (F_Room_taken : FunD K "taken" "Room.taken" (defArgs s_Room_taken) (defBody s_Room_taken) (defScope s_Room_taken) [] [] (fAd K ("Room", some "taken")) fd_Room_taken) (G_Room_taken : FnOk P w K mg base (L2.CX P w) 1 (fAd K ("Room", some "taken")) fd_Room_taken ["self"] (spv K mg ofl true 1 fe_Room_taken)) (b_Room_taken : Binds K fd_Room_taken ["self"] [])
 {fd__law_whole : FuncData} (F__law_whole : FunD K "_law_whole" "_law_whole" (defArgs s__law_whole) (defBody s__law_whole) (defScope s__law_whole) [] [] (fAd K ("_law_whole", none)) fd__law_whole) (G__law_whole : FnOk P w K mg base (L2.CX P w) 1 (fAd K ("_law_whole", none)) fd__law_whole ["found"] (spv K mg ofl false 1 fe__law_whole)) (b__law_whole : Binds K fd__law_whole ["found"] [])
 {fd_Room_height : FuncData} (F_Room_height : FunD K "height" "Room.height" (defArgs s_Room_height) (defBody s_Room_height) (defScope s_Room_height) [] [] (fAd K ("Room", some "height")) fd_Room_height) (G_Room_height : FnOk P w K mg base (L2.CX P w) 1 (fAd K ("Room", some "height")) fd_Room_height ["self"] (spv K mg ofl false 1 fe_Room_height)) (b_Room_height : Binds K fd_Room_height ["self"] [])
 {f : Addr} (cdv : Value) (A : Around) (outer : List Env) (s : Shared) (H : Hp) (E : XK) (hr : Room 1 (A.deeper (envOfC "_law_stands" (defScope s__law_stands) s.heap.objs.size f cdv))) :
    PBv ofl (cxOf (L2.CX P w) P w K mg base N__law_stands "_law_stands" (defScope s__law_stands) f cdv A outer s H E) (WB E) [3] [3] false (defBody s__law_stands) ev__law_stands :=
  (pbv_cons (psv_for (p := true) passB rfl (piv_rg1 rfl (T.free 4) (pav_cons pev_int pav_nil)) (pgv_name (pg_name (i := 2) sc__law_stands.nd rfl (.inl rfl)) rfl)
  (pbv_cons (psv_setO (p := false) (i := 3) (fun _ h => ps_set (i := 3) sc__law_stands.nd rfl (.inl rfl) h) (pev_meth0 (ro := true) (po := true) (T.glo 1) (T.cls 7) (T.meth 14) G_Room_taken (hr.mono (by decide)) b_Room_taken takesB (pev_var (pv 0) rfl)) rfl)
  (pbv_cons (psv_if (p := true) (ptv_w (pwv_or (ptv_not (ptv_val (pev_isT okIsiList rfl (T.free 19) rfl (T.free 15) PyProof.Rows.Boot.«list» (pev_own (pv 3) rfl)))) (pwv_or1 (ptv_bin okNeo (fun _ _ ha hb => pt_cmpR (op_neP hr.units) ha hb (nomark _)) (pev_own (pv 3) rfl) (pev_var (pv 1) rfl)))))
  (pbv_one (psv_ret (p := true) pev_bl))
  pbv_nil)
  (pbv_cons (psv_if (p := false) (ptv_not (ptv_val (pev_all rfl rfl (T.free 35) (pev_lcO (own := [("one", 5)]) rfl sc__law_stands.nd (pis_slot (pev_own (pv 3) rfl)) (blkOk_by (own := [("one", 5)]) (N := N__law_stands) (sc := defScope s__law_stands) (by decide +kernel)) (fun _ _ _ _ _ => (pgv_name (pg_name (i := 5) sc__law_stands.nd rfl (.inl rfl)) rfl)) (fun _ _ _ _ _ => ptsv_nil) (fun _ _ _ _ _ => (pev_and (pev_callG (ro := false) G__law_whole (hr.mono (by decide)) rfl (T.glo 9) F__law_whole.kp b__law_whole takes0 (pav_cons (pev_bin okIx (fun _ _ ha hb => pe_ix ix_seq ha hb (fun _ _ => rfl)) (pev_var (pv 5) rfl) pev_int) pav_nil) (aCons_len aNil_len)) (pev_one (pev_callG (ro := false) G__law_whole (hr.mono (by decide)) rfl (T.glo 9) F__law_whole.kp b__law_whole takes0 (pav_cons (pev_bin okIx (fun _ _ ha hb => pe_ix ix_seq ha hb (fun _ _ => rfl)) (pev_var (pv 5) rfl) pev_int) pav_nil) (aCons_len aNil_len)))))))))
  (pbv_one (psv_ret (p := true) pev_bl))
  pbv_nil)
  (pbv_cons (psv_mutS (i := 3) (p := true) okApp (fun _ _ _ _ _ c h => ty_lst c h) (fun _ h => ps_expr (pe_bm PySem.F.plainAttrs_list PySem.F.slot_list_append PySem.F.type_list_append mt_append (pv 3) h)) (pav_cons (pev_tup (pav_cons pev_int (pav_cons pev_int pav_nil))) pav_nil) rfl)
  (pbv_one (psv_mutS0 (i := 3) okRev (fun _ _ _ _ _ c h => ty_lst c h) (ps_expr (pe_bm0 PySem.F.plainAttrs_list PySem.F.slot_list_reverse PySem.F.type_list_reverse mt_reverse (pv 3))) rfl)))))))
  (pbv_cons (psv_setLc (p := true) (i := 4) (own := [("one", 5)]) rfl sc__law_stands.nd rfl rfl (sw_true rfl rfl rfl (by decide +kernel)) (PIv.toS (piv_seq (pev_var (pv 1) rfl))) (blkOk_by (own := [("one", 5)]) (N := N__law_stands) (sc := defScope s__law_stands) (by decide +kernel)) (fun _ _ _ _ _ => (pgv_name (pg_name (i := 5) sc__law_stands.nd rfl (.inl rfl)) rfl)) (fun _ _ _ _ _ => ptsv_nil) (fun _ _ _ _ _ => (pev_bin okAdd (fun _ _ ha hb => pe_op op3Add ha hb) (pev_bin okIx (fun _ _ ha hb => pe_ix ix_seq ha hb (fun _ _ => rfl)) (pev_var (pv 5) rfl) pev_int) (pev_bin okIx (fun _ _ ha hb => pe_ix ix_seq ha hb (fun _ _ => rfl)) (pev_var (pv 5) rfl) pev_int))) rfl)
  (pbv_one (psv_ret (p := false) (pev_and (pev_callG (ro := false) G__law_whole (hr.mono (by decide)) rfl (T.glo 9) F__law_whole.kp b__law_whole takesB (pav_cons (pev_meth0 (ro := false) (po := true) (T.glo 1) (T.cls 7) (T.meth 36) G_Room_height (hr.mono (by decide)) b_Room_height takesB (pev_var (pv 0) rfl)) pav_nil) (aCons_len aNil_len)) (pev_one (pev_bin okEqo (fun _ _ ha hb => pe_cmpR (op_eqP hr.units) ha hb (nomark _)) (pev_meth0 (ro := false) (po := true) (T.glo 1) (T.cls 7) (T.meth 36) G_Room_height (hr.mono (by decide)) b_Room_height takesB (pev_var (pv 0) rfl)) (pev_maxL rfl rfl (T.free 37) (pev_bin okAdd (fun _ _ ha hb => pe_op op3Add ha hb) (pev_frz (pev_lstO (pav_cons pev_int pav_nil))) (pev_var (pv 4) rfl))))))))))
theorem ok__law_stands (T : TxL fa fn K mg) : ∃ fd, FunD K "_law_stands" "_law_stands" (defArgs s__law_stands) (defBody s__law_stands) (defScope s__law_stands) [] [] (fAd K ("_law_stands", none)) fd ∧ FnOk P w K mg base (L2.CX P w) 2 (fAd K ("_law_stands", none)) fd ["room", "taken"] (spv K mg ofl false 2 fe__law_stands) ∧ Binds K fd ["room", "taken"] [] := by
  obtain ⟨fd_Room_taken, F_Room_taken, G_Room_taken, b_Room_taken⟩ := ok_Room_taken (P := P) (w := w) (base := base) T
  obtain ⟨fd__law_whole, F__law_whole, G__law_whole, b__law_whole⟩ := ok__law_whole (P := P) (w := w) (base := base) T
  obtain ⟨fd_Room_height, F_Room_height, G_Room_height, b_Room_height⟩ := ok_Room_height (P := P) (w := w) (base := base) T
  obtain ⟨fd, F0⟩ := T.says.def_ 12 (d := dd__law_stands) rfl
  have F : FunD K "_law_stands" "_law_stands" (defArgs s__law_stands) (defBody s__law_stands) (defScope s__law_stands) [] [] (fAd K ("_law_stands", none)) fd := F0
  have G := def_okD (P := P) (w := w) (K := K) (mg := mg) (base := base) (ofl := ofl) (st := s__law_stands) (N := N__law_stands) (ps := ["room", "taken"]) (k := 1) (ow := [3]) (ow' := [3]) (ro := false) (ev := ev__law_stands) F sc__law_stands (by decide) (fun h => nomatch h) (fun cdv A outer s H E hr => bd__law_stands T F_Room_taken G_Room_taken b_Room_taken F__law_whole G__law_whole b__law_whole F_Room_height G_Room_height b_Room_height cdv A outer s H E hr)
  exact ⟨fd, F, G, FunD.bindsN F (ps := ["room", "taken"]) fun _ _ _ _ _ _ us hl => match us, hl with | [_, _], _ => rfl⟩
/-! ### law -/
abbrev s_law : Stmt := top 13
abbrev N_law : List Str := ["script", "feed", "rooms", "kept", "states", "turn", "k", "taken", "way", "length", "due", "told", "one", "far", "starts", "other"]
theorem sc_law : FnScope N_law ["script"] (defScope s_law) := ⟨rfl, rfl, rfl, by decide +kernel, rfl, by decide +kernel, by decide +kernel⟩
noncomputable def ev_law : Sv := (sSeq (sSet 1 (eMem (eCall fe__law_feed (aCons (eVar 0) (aCons (eC (.int 0)) aNil)))))
  (sSeq (sSet 2 (eLst (aCons (eMake "Room" fe_Room_ini aNil) (aCons (eMake "Room" fe_Room_ini aNil) aNil))))
  (sSeq (sSet 3 (eLst aNil))
  (sSeq (sSet 4 (eLst (aCons (eLst aNil) (aCons (eLst aNil) aNil))))
  (sSeq (sFor (iR1 (aCons (eCall fe__law_take (aCons (eVar 1) (aCons (eC (.int 41)) aNil))) aNil)) (gN 5)
  (sSeq (sSet 6 (eCall fe__law_take (aCons (eVar 1) (aCons (eC (.int 2)) aNil))))
  (sSeq (sSet 7 (eBin dIx (eVar 4) (eVar 6)))
  (sSeq (sSet 8 (eCall fe__law_take (aCons (eVar 1) (aCons (eC (.int 6)) aNil))))
  (sSeq (sIf (tOf (eBin dLt (eVar 8) (eC (.int 3))))
  (sSeq (sSet 9 (eBin dAdd (eC (.int 1)) (eCall fe__law_take (aCons (eVar 1) (aCons (eCall fe__law_pick (aCons (eVar 1) (aCons (eLst (aCons (eC (.int 1)) (aCons (eC (.int 4)) (aCons (eC (.int 9)) (aCons (eC (.int 300)) (aCons (eC (.int 2000)) aNil)))))) aNil))) aNil)))))
  (sSeq (sSet 10 (eCall fe__law_place (aCons (eVar 7) (aCons (eVar 9) aNil))))
  (sSeq (sSet 11 (eMeth "Room" "take" fe_Room_take (eBin dIx (eVar 2) (eVar 6)) (aCons (eVar 9) aNil)))
  (sSeq (sIf (tOr (tNot (tOf (eCall fe__law_whole (aCons (eVar 11) aNil)))) (tOf (eBin dNeo (eVar 11) (eVar 10))))
  (sRet (eC (.bl false)))
  sNx)
  (sPutS pLst 4 (eVar 6) (eUn dSortP (eBin dAdd (eVar 7) (eLst (aCons (eTup (aCons (eVar 10) (aCons (eVar 9) aNil))) aNil)))))))))
  (sIf (tAnd (tOf (eBin dLt (eVar 8) (eC (.int 5)))) (tOf (eBin dNeo (eVar 7) (eLst aNil))))
  (sSeq (sSet 12 (eCall fe__law_pick (aCons (eVar 1) (aCons (eBin dAdd (eVar 7) (eLst (aCons (eBin dIx (eVar 7) (eC (.int 0))) (aCons (eBin dIx (eVar 7) (eUn dNeg (eC (.int 1)))) aNil)))) aNil))))
  (sSeq (sDo (eMeth "Room" "give_back" fe_Room_give_back (eBin dIx (eVar 2) (eVar 6)) (aCons (eBin dIx (eVar 12) (eC (.int 0))) aNil)))
  (sPutS pLst 4 (eVar 6) (eLc (iSeq (eVar 7)) [15] (gN 15) (tOf (eBin dNeo (eVar 15) (eVar 12))) (eVar 15)))))
  (sSeq (sSet 13 (eCall fe__law_pick (aCons (eVar 1) (aCons (eLst (aCons (eBin dSub (eC (.int 0)) (eC (.int 1))) (aCons (eCall fe__law_take (aCons (eVar 1) (aCons (eC (.int 20)) aNil))) (aCons (eCall fe__law_take (aCons (eVar 1) (aCons (eC (.int 9000)) aNil))) (aCons (eBin dPow (eC (.int 10)) (eC (.int 29))) aNil))))) aNil))))
  (sSeq (sSet 14 (eLc (iSeq (eVar 7)) [12] (gN 12) tTrue (eBin dIx (eVar 12) (eC (.int 0)))))
  (sIf (tAnd (tOf (eBin dNi (eVar 13) (eVar 14))) (tNot (tOf (eCall fe__law_refused (aCons (eBin dIx (eVar 2) (eVar 6)) (aCons (eVar 13) aNil))))))
  (sRet (eC (.bl false)))
  sNx)))))
  (sSeq (sIf (tAnd (tOf (eBin dGt (eCall fe__law_take (aCons (eVar 1) (aCons (eC (.int 3)) aNil))) (eC (.int 0)))) (tNot (tOf (eCall fe__law_stands (aCons (eBin dIx (eVar 2) (eVar 6)) (aCons (eBin dIx (eVar 4) (eVar 6)) aNil))))))
  (sRet (eC (.bl false)))
  sNx)
  (sSeq (sSet 11 (eMeth "Room" "taken" fe_Room_taken (eBin dIx (eVar 2) (eVar 6)) aNil))
  (sMutS D.isLst mApp 3 (aCons (eTup (aCons (eVar 11) (aCons (eUn dList (eVar 11)) aNil))) aNil)))))))))
  (sSeq (sIf (tOf (eBin dNeo (eLc (iSeq (eVar 3)) [12] (gN 12) (tOf (eBin dNeo (eBin dIx (eVar 12) (eC (.int 0))) (eBin dIx (eVar 12) (eC (.int 1))))) (eVar 12)) (eLst aNil)))
  (sRet (eC (.bl false)))
  sNx)
  (sRet (eAnd (eCall fe__law_stands (aCons (eBin dIx (eVar 2) (eC (.int 0))) (aCons (eBin dIx (eVar 4) (eC (.int 0))) aNil))) (eCall fe__law_stands (aCons (eBin dIx (eVar 2) (eC (.int 1))) (aCons (eBin dIx (eVar 4) (eC (.int 1))) aNil)))))))))))
noncomputable def fe_law : List D → Mem → R D := fnv 1 16 ev_law
theorem bd_law (T : TxL fa fn K mg)
 {fd__law_feed : FuncData} (F__law_feed : FunD K "_law_feed" "_law_feed" (defArgs s__law_feed) (defBody s__law_feed) (defScope s__law_feed) [] [] (fAd K ("_law_feed", none)) fd__law_feed) (G__law_feed : FnOk P w K mg base (L2.CX P w) 1 (fAd K ("_law_feed", none)) fd__law_feed ["script", "k"] (spv K mg ofl true 2 fe__law_feed)) (b__law_feed : Binds K fd__law_feed ["script", "k"] [])
 {fd_Room_ini : FuncData} (F_Room_ini : FunD K "__init__" "Room.__init__" (defArgs s_Room_ini) (defBody s_Room_ini) (defScope s_Room_ini) [] [] (fAd K ("Room", some "__init__")) fd_Room_ini) (G_Room_ini : FnOk P w K mg base (L2.CX P w) 1 (fAd K ("Room", some "__init__")) fd_Room_ini ["self"] (spv K mg ofl false 1 fe_Room_ini)) (b_Room_ini : Binds K fd_Room_ini ["self"] [])
 {fd__law_take : FuncData} (F__law_take : FunD K "_law_take" "_law_take" (defArgs s__law_take) (defBody s__law_take) (defScope s__law_take) [] [] (fAd K ("_law_take", none)) fd__law_take) (G__law_take : FnOk P w K mg base (L2.CX P w) 1 (fAd K ("_law_take", none)) fd__law_take ["feed", "many"] (spv K mg ofl false 2 fe__law_take)) (b__law_take : Binds K fd__law_take ["feed", "many"] [])
 {fd__law_pick : FuncData} (F__law_pick : FunD K "_law_pick" "_law_pick" (defArgs s__law_pick) (defBody s__law_pick) (defScope s__law_pick) [] [] (fAd K ("_law_pick", none)) fd__law_pick) (G__law_pick : FnOk P w K mg base (L2.CX P w) 2 (fAd K ("_law_pick", none)) fd__law_pick ["feed", "some"] (spv K mg ofl false 2 fe__law_pick)) (b__law_pick : Binds K fd__law_pick ["feed", "some"] [])
 {fd__law_place : FuncData} (F__law_place : FunD K "_law_place" "_law_place" (defArgs s__law_place) (defBody s__law_place) (defScope s__law_place) [] [] (fAd K ("_law_place", none)) fd__law_place) (G__law_place : FnOk P w K mg base (L2.CX P w) 1 (fAd K ("_law_place", none)) fd__law_place ["taken", "length"] (spv K mg ofl false 2 fe__law_place)) (b__law_place : Binds K fd__law_place ["taken", "length"] [])
 {fd_Room_take : FuncData} (F_Room_take : FunD K "take" "Room.take" (defArgs s_Room_take) (defBody s_Room_take) (defScope s_Room_take) [] [] (fAd K ("Room", some "take")) fd_Room_take) (G_Room_take : FnOk P w K mg base (L2.CX P w) 1 (fAd K ("Room", some "take")) fd_Room_take ["self", "length"] (spv K mg ofl false 2 fe_Room_take)) (b_Room_take : Binds K fd_Room_take ["self", "length"] [])
 {fd__law_whole : FuncData} (F__law_whole : FunD K "_law_whole" "_law_whole" (defArgs s__law_whole) (defBody s__law_whole) (defScope s__law_whole) [] [] (fAd K ("_law_whole", none)) fd__law_whole) (G__law_whole : FnOk P w K mg base (L2.CX P w) 1 (fAd K ("_law_whole", none)) fd__law_whole ["found"] (spv K mg ofl false 1 fe__law_whole)) (b__law_whole : Binds K fd__law_whole ["found"] [])
 {fd_Room_give_back : FuncData} (F_Room_give_back : FunD K "give_back" "Room.give_back" (defArgs s_Room_give_back) (defBody s_Room_give_back) (defScope s_Room_give_back) [] [] (fAd K ("Room", some "give_back")) fd_Room_give_back) (G_Room_give_back : FnOk P w K mg base (L2.CX P w) 3 (fAd K ("Room", some "give_back")) fd_Room_give_back ["self", "at"] (spv K mg ofl false 2 fe_Room_give_back)) (b_Room_give_back : Binds K fd_Room_give_back ["self", "at"] [])
 {fd__law_refused : FuncData} (F__law_refused : FunD K "_law_refused" "_law_refused" (defArgs s__law_refused) (defBody s__law_refused) (defScope s__law_refused) [] [] (fAd K ("_law_refused", none)) fd__law_refused) (G__law_refused : FnOk P w K mg base (L2.CX P w) 4 (fAd K ("_law_refused", none)) fd__law_refused ["room", "at"] (spv K mg ofl false 2 fe__law_refused)) (b__law_refused : Binds K fd__law_refused ["room", "at"] [])
 {fd__law_stands : FuncData} (F__law_stands : FunD K "_law_stands" "_law_stands" (defArgs s__law_stands) (defBody s__law_stands) (defScope s__law_stands) [] [] (fAd K ("_law_stands", none)) fd__law_stands) (G__law_stands : FnOk P w K mg base (L2.CX P w) 2 (fAd K ("_law_stands", none)) fd__law_stands ["room", "taken"] (spv K mg ofl false 2 fe__law_stands)) (b__law_stands : Binds K fd__law_stands ["room", "taken"] [])
 {fd_Room_taken : FuncData} (F_Room_taken : FunD K "taken" "Room.taken" (defArgs s_Room_taken) (defBody s_Room_taken) (defScope s_Room_taken) [] [] (fAd K ("Room", some "taken")) fd_Room_taken) (G_Room_taken : FnOk P w K mg base (L2.CX P w) 1 (fAd K ("Room", some "taken")) fd_Room_taken ["self"] (spv K mg ofl true 1 fe_Room_taken)) (b_Room_taken : Binds K fd_Room_taken ["self"] [])
 {f : Addr} (cdv : Value) (A : Around) (outer : List Env) (s : Shared) (H : Hp) (E : XK) (hr : Room 4 (A.deeper (envOfC "law" (defScope s_law) s.heap.objs.size f cdv))) :
    PBv ofl (cxOf (L2.CX P w) P w K mg base N_law "law" (defScope s_law) f cdv A outer s H E) (WB E) [3, 4] [3, 4] false (defBody s_law) ev_law :=
  (pbv_cons (psv_set (p := false) (i := 1) (fun _ h => ps_set (i := 1) sc_law.nd rfl (.inl rfl) h) (pev_mem (pev_callG (ro := true) G__law_feed (hr.mono (by decide)) rfl (T.glo 0) F__law_feed.kp b__law_feed takesB (pav_cons (pev_var (pv 0) rfl) (pav_cons pev_int pav_nil)) (aCons_len (aCons_len aNil_len)))) rfl)
  (pbv_cons (psv_set (p := false) (i := 2) (fun _ h => ps_set (i := 2) sc_law.nd rfl (.inl rfl) h) (pev_frz (pev_lstO (pav_cons (pev_make0 (T.glo 1) (T.mkr 2) G_Room_ini (hr.mono (by decide)) rfl b_Room_ini takesB) (pav_cons (pev_make0 (T.glo 1) (T.mkr 2) G_Room_ini (hr.mono (by decide)) rfl b_Room_ini takesB) pav_nil)))) rfl)
  (pbv_cons (psv_setO (p := true) (i := 3) (fun _ h => ps_set (i := 3) sc_law.nd rfl (.inl rfl) h) (pev_lstO pav_nil) rfl)
  (pbv_cons (psv_setO (p := true) (i := 4) (fun _ h => ps_set (i := 4) sc_law.nd rfl (.inl rfl) h) (pev_lstO (pav_cons (pev_frz (pev_lstO pav_nil)) (pav_cons (pev_frz (pev_lstO pav_nil)) pav_nil))) rfl)
  (pbv_cons (psv_for (p := false) passB rfl (piv_rg1 rfl (T.free 4) (pav_cons (pev_callG (ro := false) G__law_take (hr.mono (by decide)) rfl (T.glo 3) F__law_take.kp b__law_take takesB (pav_cons (pev_var (pv 1) rfl) (pav_cons pev_int pav_nil)) (aCons_len (aCons_len aNil_len))) pav_nil)) (pgv_name (pg_name (i := 5) sc_law.nd rfl (.inl rfl)) rfl)
  (pbv_cons (psv_set (p := false) (i := 6) (fun _ h => ps_set (i := 6) sc_law.nd rfl (.inl rfl) h) (pev_callG (ro := false) G__law_take (hr.mono (by decide)) rfl (T.glo 3) F__law_take.kp b__law_take takesB (pav_cons (pev_var (pv 1) rfl) (pav_cons pev_int pav_nil)) (aCons_len (aCons_len aNil_len))) rfl)
  (pbv_cons (psv_set (p := true) (i := 7) (fun _ h => ps_set (i := 7) sc_law.nd rfl (.inl rfl) h) (pev_bin okIx (fun _ _ ha hb => pe_ix ix_seq ha hb (fun _ _ => rfl)) (pev_own (pv 4) rfl) (pev_var (pv 6) rfl)) rfl)
  (pbv_cons (psv_set (p := false) (i := 8) (fun _ h => ps_set (i := 8) sc_law.nd rfl (.inl rfl) h) (pev_callG (ro := false) G__law_take (hr.mono (by decide)) rfl (T.glo 3) F__law_take.kp b__law_take takesB (pav_cons (pev_var (pv 1) rfl) (pav_cons pev_int pav_nil)) (aCons_len (aCons_len aNil_len))) rfl)
  (pbv_cons (psv_if (p := true) (ptv_bin okLt (fun _ _ ha hb => pt_cmpR op_lt ha hb (nomark _)) (pev_var (pv 8) rfl) pev_int)
  (pbv_cons (psv_set (p := false) (i := 9) (fun _ h => ps_set (i := 9) sc_law.nd rfl (.inl rfl) h) (pev_bin okAdd (fun _ _ ha hb => pe_op op3Add ha hb) pev_int (pev_callG (ro := false) G__law_take (hr.mono (by decide)) rfl (T.glo 3) F__law_take.kp b__law_take takesB (pav_cons (pev_var (pv 1) rfl) (pav_cons (pev_callG (ro := false) G__law_pick (hr.mono (by decide)) rfl (T.glo 5) F__law_pick.kp b__law_pick takesB (pav_cons (pev_var (pv 1) rfl) (pav_cons (pev_frz (pev_lstO (pav_cons pev_int (pav_cons pev_int (pav_cons pev_int (pav_cons pev_int (pav_cons pev_int pav_nil))))))) pav_nil)) (aCons_len (aCons_len aNil_len))) pav_nil)) (aCons_len (aCons_len aNil_len)))) rfl)
  (pbv_cons (psv_set (p := false) (i := 10) (fun _ h => ps_set (i := 10) sc_law.nd rfl (.inl rfl) h) (pev_callG (ro := false) G__law_place (hr.mono (by decide)) rfl (T.glo 6) F__law_place.kp b__law_place takesB (pav_cons (pev_var (pv 7) rfl) (pav_cons (pev_var (pv 9) rfl) pav_nil)) (aCons_len (aCons_len aNil_len))) rfl)
  (pbv_cons (psv_set (p := false) (i := 11) (fun _ h => ps_set (i := 11) sc_law.nd rfl (.inl rfl) h) (pev_meth (ro := false) (po := true) (pa := true) (T.glo 1) (T.cls 7) (T.meth 8) G_Room_take (hr.mono (by decide)) b_Room_take takesB (pev_bin okIx (fun _ _ ha hb => pe_ix ix_seq ha hb (fun _ _ => rfl)) (pev_var (pv 2) rfl) (pev_var (pv 6) rfl)) (pav_cons (pev_var (pv 9) rfl) pav_nil) (len1 (aCons_len aNil_len))) rfl)
  (pbv_cons (psv_if (p := false) (ptv_w (pwv_or (ptv_not (ptv_val (pev_callG (ro := false) G__law_whole (hr.mono (by decide)) rfl (T.glo 9) F__law_whole.kp b__law_whole takesB (pav_cons (pev_var (pv 11) rfl) pav_nil) (aCons_len aNil_len)))) (pwv_or1 (ptv_bin okNeo (fun _ _ ha hb => pt_cmpR (op_neP hr.units) ha hb (nomark _)) (pev_var (pv 11) rfl) (pev_var (pv 10) rfl)))))
  (pbv_one (psv_ret (p := true) pev_bl))
  pbv_nil)
  (pbv_one (psv_putS (n := 4) (p := true) okPutL (fun _ _ hi he => ps_asg he (pg_sub (pv 4) hi set_list)) (pev_var (pv 6) rfl) (pev_frz (pev_sortP rfl (T.free 10) (pev_bin okAdd (fun _ _ ha hb => pe_op op3Add ha hb) (pev_var (pv 7) rfl) (pev_lstO (pav_cons (pev_tup (pav_cons (pev_var (pv 10) rfl) (pav_cons (pev_var (pv 9) rfl) pav_nil))) pav_nil))))) rfl))))))
  (pbv_one (psv_if (p := true) (ptv_w (pwv_and (ptv_bin okLt (fun _ _ ha hb => pt_cmpR op_lt ha hb (nomark _)) (pev_var (pv 8) rfl) pev_int) (pwv_and1 (ptv_bin okNeo (fun _ _ ha hb => pt_cmpR (op_neP hr.units) ha hb (nomark _)) (pev_var (pv 7) rfl) (pev_lstO pav_nil)))))
  (pbv_cons (psv_set (p := false) (i := 12) (fun _ h => ps_set (i := 12) sc_law.nd rfl (.inr rfl) h) (pev_callG (ro := false) G__law_pick (hr.mono (by decide)) rfl (T.glo 5) F__law_pick.kp b__law_pick takesB (pav_cons (pev_var (pv 1) rfl) (pav_cons (pev_bin okAdd (fun _ _ ha hb => pe_op op3Add ha hb) (pev_var (pv 7) rfl) (pev_lstO (pav_cons (pev_bin okIx (fun _ _ ha hb => pe_ix ix_seq ha hb (fun _ _ => rfl)) (pev_var (pv 7) rfl) pev_int) (pav_cons (pev_bin okIx (fun _ _ ha hb => pe_ix ix_seq ha hb (fun _ _ => rfl)) (pev_var (pv 7) rfl) (pev_neg pev_int)) pav_nil)))) pav_nil)) (aCons_len (aCons_len aNil_len))) rfl)
  (pbv_cons (psv_do (p := false) (pev_meth (ro := false) (po := true) (pa := true) (T.glo 1) (T.cls 7) (T.meth 11) G_Room_give_back (hr.mono (by decide)) b_Room_give_back takesB (pev_bin okIx (fun _ _ ha hb => pe_ix ix_seq ha hb (fun _ _ => rfl)) (pev_var (pv 2) rfl) (pev_var (pv 6) rfl)) (pav_cons (pev_bin okIx (fun _ _ ha hb => pe_ix ix_seq ha hb (fun _ _ => rfl)) (pev_var (pv 12) rfl) pev_int) pav_nil) (len1 (aCons_len aNil_len))))
  (pbv_one (psv_putS (n := 4) (p := true) okPutL (fun _ _ hi he => ps_asg he (pg_sub (pv 4) hi set_list)) (pev_var (pv 6) rfl) (pev_frz (pev_lcO (own := [("other", 15)]) rfl sc_law.nd (PIv.toS (piv_seq (pev_var (pv 7) rfl))) (blkOk_by (own := [("other", 15)]) (N := N_law) (sc := defScope s_law) (by decide +kernel)) (fun _ _ _ _ _ => (pgv_name (pg_name (i := 15) sc_law.nd rfl (.inl rfl)) rfl)) (fun _ _ _ _ _ => (ptsv_one (ptv_bin okNeo (fun _ _ ha hb => pt_cmpR (op_neP hr.units) ha hb (nomark _)) (pev_var (pv 15) rfl) (pev_var (pv 12) rfl)))) (fun _ _ _ _ _ => (pev_var (pv 15) rfl)))) rfl))))
  (pbv_cons (psv_set (p := false) (i := 13) (fun _ h => ps_set (i := 13) sc_law.nd rfl (.inl rfl) h) (pev_callG (ro := false) G__law_pick (hr.mono (by decide)) rfl (T.glo 5) F__law_pick.kp b__law_pick takesB (pav_cons (pev_var (pv 1) rfl) (pav_cons (pev_frz (pev_lstO (pav_cons (pev_bin okSub (fun _ _ ha hb => pe_op op_sub ha hb) pev_int pev_int) (pav_cons (pev_callG (ro := false) G__law_take (hr.mono (by decide)) rfl (T.glo 3) F__law_take.kp b__law_take takesB (pav_cons (pev_var (pv 1) rfl) (pav_cons pev_int pav_nil)) (aCons_len (aCons_len aNil_len))) (pav_cons (pev_callG (ro := false) G__law_take (hr.mono (by decide)) rfl (T.glo 3) F__law_take.kp b__law_take takesB (pav_cons (pev_var (pv 1) rfl) (pav_cons pev_int pav_nil)) (aCons_len (aCons_len aNil_len))) (pav_cons (pev_bin okPow (fun _ _ ha hb => pe_op op_pow ha hb) pev_int pev_int) pav_nil)))))) pav_nil)) (aCons_len (aCons_len aNil_len))) rfl)
  (pbv_cons (psv_setLc (p := true) (i := 14) (own := [("one", 12)]) rfl sc_law.nd rfl rfl (sw_true rfl rfl rfl (by decide +kernel)) (PIv.toS (piv_seq (pev_var (pv 7) rfl))) (blkOk_by (own := [("one", 12)]) (N := N_law) (sc := defScope s_law) (by decide +kernel)) (fun _ _ _ _ _ => (pgv_name (pg_name (i := 12) sc_law.nd rfl (.inl rfl)) rfl)) (fun _ _ _ _ _ => ptsv_nil) (fun _ _ _ _ _ => (pev_bin okIx (fun _ _ ha hb => pe_ix ix_seq ha hb (fun _ _ => rfl)) (pev_var (pv 12) rfl) pev_int)) rfl)
  (pbv_one (psv_if (p := false) (ptv_w (pwv_and (ptv_bin okNi (fun _ _ ha hb => pt_cmpR (op_niP hr.units) ha hb (by rfl)) (pev_var (pv 13) rfl) (pev_var (pv 14) rfl)) (pwv_and1 (ptv_not (ptv_val (pev_callG (ro := false) G__law_refused (hr.mono (by decide)) rfl (T.glo 12) F__law_refused.kp b__law_refused takesB (pav_cons (pev_bin okIx (fun _ _ ha hb => pe_ix ix_seq ha hb (fun _ _ => rfl)) (pev_var (pv 2) rfl) (pev_var (pv 6) rfl)) (pav_cons (pev_var (pv 13) rfl) pav_nil)) (aCons_len (aCons_len aNil_len))))))))
  (pbv_one (psv_ret (p := true) pev_bl))
  pbv_nil)))))))
  (pbv_cons (psv_if (p := false) (ptv_w (pwv_and (ptv_bin okGt (fun _ _ ha hb => pt_cmpR op_gt ha hb (nomark _)) (pev_callG (ro := false) G__law_take (hr.mono (by decide)) rfl (T.glo 3) F__law_take.kp b__law_take takesB (pav_cons (pev_var (pv 1) rfl) (pav_cons pev_int pav_nil)) (aCons_len (aCons_len aNil_len))) pev_int) (pwv_and1 (ptv_not (ptv_val (pev_callG (ro := false) G__law_stands (hr.mono (by decide)) rfl (T.glo 13) F__law_stands.kp b__law_stands takesB (pav_cons (pev_bin okIx (fun _ _ ha hb => pe_ix ix_seq ha hb (fun _ _ => rfl)) (pev_var (pv 2) rfl) (pev_var (pv 6) rfl)) (pav_cons (pev_bin okIx (fun _ _ ha hb => pe_ix ix_seq ha hb (fun _ _ => rfl)) (pev_own (pv 4) rfl) (pev_var (pv 6) rfl)) pav_nil)) (aCons_len (aCons_len aNil_len))))))))
  (pbv_one (psv_ret (p := true) pev_bl))
  pbv_nil)
  (pbv_cons (psv_set (p := false) (i := 11) (fun _ h => ps_set (i := 11) sc_law.nd rfl (.inl rfl) h) (pev_frz (pev_meth0 (ro := true) (po := true) (T.glo 1) (T.cls 7) (T.meth 14) G_Room_taken (hr.mono (by decide)) b_Room_taken takesB (pev_bin okIx (fun _ _ ha hb => pe_ix ix_seq ha hb (fun _ _ => rfl)) (pev_var (pv 2) rfl) (pev_var (pv 6) rfl)))) rfl)
  (pbv_one (psv_mutS (i := 3) (p := true) okApp (fun _ _ _ _ _ c h => ty_lst c h) (fun _ h => ps_expr (pe_bm PySem.F.plainAttrs_list PySem.F.slot_list_append PySem.F.type_list_append mt_append (pv 3) h)) (pav_cons (pev_tup (pav_cons (pev_var (pv 11) rfl) (pav_cons (pev_frz (pev_list rfl (T.free 15) (pev_var (pv 11) rfl))) pav_nil))) pav_nil) rfl)))))))))
  (pbv_cons (psv_if (p := true) (ptv_bin okNeo (fun _ _ ha hb => pt_cmpR (op_neP hr.units) ha hb (nomark _)) (pev_frz (pev_lcO (own := [("one", 12)]) rfl sc_law.nd (pis_slot (pev_own (pv 3) rfl)) (blkOk_by (own := [("one", 12)]) (N := N_law) (sc := defScope s_law) (by decide +kernel)) (fun _ _ _ _ _ => (pgv_name (pg_name (i := 12) sc_law.nd rfl (.inl rfl)) rfl)) (fun _ _ _ _ _ => (ptsv_one (ptv_bin okNeo (fun _ _ ha hb => pt_cmpR (op_neP hr.units) ha hb (nomark _)) (pev_bin okIx (fun _ _ ha hb => pe_ix ix_seq ha hb (fun _ _ => rfl)) (pev_var (pv 12) rfl) pev_int) (pev_bin okIx (fun _ _ ha hb => pe_ix ix_seq ha hb (fun _ _ => rfl)) (pev_var (pv 12) rfl) pev_int)))) (fun _ _ _ _ _ => (pev_var (pv 12) rfl)))) (pev_lstO pav_nil))
  (pbv_one (psv_ret (p := true) pev_bl))
  pbv_nil)
  (pbv_one (psv_ret (p := false) (pev_and (pev_callG (ro := false) G__law_stands (hr.mono (by decide)) rfl (T.glo 13) F__law_stands.kp b__law_stands takesB (pav_cons (pev_bin okIx (fun _ _ ha hb => pe_ix ix_seq ha hb (fun _ _ => rfl)) (pev_var (pv 2) rfl) pev_int) (pav_cons (pev_bin okIx (fun _ _ ha hb => pe_ix ix_seq ha hb (fun _ _ => rfl)) (pev_own (pv 4) rfl) pev_int) pav_nil)) (aCons_len (aCons_len aNil_len))) (pev_one (pev_callG (ro := false) G__law_stands (hr.mono (by decide)) rfl (T.glo 13) F__law_stands.kp b__law_stands takesB (pav_cons (pev_bin okIx (fun _ _ ha hb => pe_ix ix_seq ha hb (fun _ _ => rfl)) (pev_var (pv 2) rfl) pev_int) (pav_cons (pev_bin okIx (fun _ _ ha hb => pe_ix ix_seq ha hb (fun _ _ => rfl)) (pev_own (pv 4) rfl) pev_int) pav_nil)) (aCons_len (aCons_len aNil_len)))))))))))))
theorem ok_law (T : TxL fa fn K mg) : ∃ fd, FunD K "law" "law" (defArgs s_law) (defBody s_law) (defScope s_law) [] [] (fAd K ("law", none)) fd ∧ FnOk P w K mg base (L2.CX P w) 5 (fAd K ("law", none)) fd ["script"] (spv K mg ofl false 1 fe_law) ∧ Binds K fd ["script"] [] := by
  obtain ⟨fd__law_feed, F__law_feed, G__law_feed, b__law_feed⟩ := ok__law_feed (P := P) (w := w) (base := base) T
  obtain ⟨fd_Room_ini, F_Room_ini, G_Room_ini, b_Room_ini⟩ := ok_Room_ini (P := P) (w := w) (base := base) T
  obtain ⟨fd__law_take, F__law_take, G__law_take, b__law_take⟩ := ok__law_take (P := P) (w := w) (base := base) T
  obtain ⟨fd__law_pick, F__law_pick, G__law_pick, b__law_pick⟩ := ok__law_pick (P := P) (w := w) (base := base) T
  obtain ⟨fd__law_place, F__law_place, G__law_place, b__law_place⟩ := ok__law_place (P := P) (w := w) (base := base) T
  obtain ⟨fd_Room_take, F_Room_take, G_Room_take, b_Room_take⟩ := ok_Room_take (P := P) (w := w) (base := base) T
  obtain ⟨fd__law_whole, F__law_whole, G__law_whole, b__law_whole⟩ := ok__law_whole (P := P) (w := w) (base := base) T
  obtain ⟨fd_Room_give_back, F_Room_give_back, G_Room_give_back, b_Room_give_back⟩ := ok_Room_give_back (P := P) (w := w) (base := base) T
  obtain ⟨fd__law_refused, F__law_refused, G__law_refused, b__law_refused⟩ := ok__law_refused (P := P) (w := w) (base := base) T
  obtain ⟨fd__law_stands, F__law_stands, G__law_stands, b__law_stands⟩ := ok__law_stands (P := P) (w := w) (base := base) T
  obtain ⟨fd_Room_taken, F_Room_taken, G_Room_taken, b_Room_taken⟩ := ok_Room_taken (P := P) (w := w) (base := base) T
  obtain ⟨fd, F0⟩ := T.says.def_ 13 (d := dd_law) rfl
  have F : FunD K "law" "law" (defArgs s_law) (defBody s_law) (defScope s_law) [] [] (fAd K ("law", none)) fd := F0
  have G := def_okD (P := P) (w := w) (K := K) (mg := mg) (base := base) (ofl := ofl) (st := s_law) (N := N_law) (ps := ["script"]) (k := 4) (ow := [3, 4]) (ow' := [3, 4]) (ro := false) (ev := ev_law) F sc_law (by decide) (fun h => nomatch h) (fun cdv A outer s H E hr => bd_law T F__law_feed G__law_feed b__law_feed F_Room_ini G_Room_ini b_Room_ini F__law_take G__law_take b__law_take F__law_pick G__law_pick b__law_pick F__law_place G__law_place b__law_place F_Room_take G_Room_take b_Room_take F__law_whole G__law_whole b__law_whole F_Room_give_back G_Room_give_back b_Room_give_back F__law_refused G__law_refused b__law_refused F__law_stands G__law_stands b__law_stands F_Room_taken G_Room_taken b_Room_taken cdv A outer s H E hr)
  exact ⟨fd, F, G, FunD.bindsN F (ps := ["script"]) fun _ _ _ _ _ _ us hl => match us, hl with | [_], _ => rfl⟩
end
def li : Nat := 13
abbrev Rw : PySem.W.OpenRow := PySem.W.OpenLaw.row PySem.Challenge.rw_latehall_k75_rooms
abbrev hk : PySem.W.Hook := hookL 5 fa fn
def ob (s : PySem.W.SharedT) : He.AlD := obsLG 5 fa fn (HandSHeadRun.getT s)
theorem ob_eq (s : PySem.W.SharedT) : ob s = hk.obs s.abs := obsLG_eq (HandSHeadRun.getT_eq s)
def loose : List Str := ["NotTaken", "Vacant", "Room", "_law_feed", "_law_take", "_law_pick", "_law_whole", "_law_place", "_law_stands", "_law_refused", "__name__"]
set_option maxHeartbeats 0 in
theorem run (w : World) : HandSHeadRun.RunEq Rw (PySem.W.view Rw.prog [13]) hk ob 4000 loose w := by
  intro os
  kernel_rfl
theorem facts {P : Program} {w : World} {K : PySem.W.Frag} {h : Heap} {mg : Str → Option Value} {f : Addr} (X : K.In h) (G : h.Ns mainGlobals mg) (hfa : mg ("law" : Str) = some (.ref f)) (c : SaysL fa fn K) :
    ∃ fd : FuncData, (∀ (s : Shared) (v : Value), PySem.BindsTo s fd ⟨[v], []⟩ [("script", v)]) ∧ ∀ base : Heap, K.In base → base.Ns mainGlobals mg → FnOk P w K mg base (L2.CX P w) 5 f fd ["script"] (spv K mg ofl false 1 fe_law) := by
  have T := TxL.of X G c
  have e := hfa.symm.trans (T.glo 38)
  cases e
  obtain ⟨fd, F⟩ := c.def_ 13 (d := dd_law) rfl
  refine ⟨fd, fun s v => FunD.bindsA (ps := ["script"]) F (fun _ _ _ _ _ _ us hl => match us, hl with | [_], _ => rfl) s [v] rfl, fun base _ _ => ?_⟩
  obtain ⟨fd', F', Gl', _⟩ := ok_law (P := P) (w := w) (base := base) T
  have q : fd' = fd := funD_one F' F
  subst q
  exact Gl'
open PySem.W PyProof.Rows in
set_option maxHeartbeats 0 in
/-- the law, once its walk's function is known to say True -/
theorem holds_of (pl : ∀ ns : List Int, ns.length ≤ 63 → ∃ M, fe_law [.scr ns] [] = .ok (.bl true) M) : PySem.Challenge.rw_latehall_k75_rooms.Holds := by
  w_on; o_law
  refine HandSHeadRun.head_any (r := OpenLaw.row PySem.Challenge.rw_latehall_k75_rooms) (q := view (OpenLaw.row PySem.Challenge.rw_latehall_k75_rooms).prog [13]) (H := hk) (ob := ob) (M := 4000) (loose := loose) (d := HandSHeadRun.topDef (OpenLaw.row PySem.Challenge.rw_latehall_k75_rooms).prog 13) (kwd := []) ob_eq
    (by kernel_rfl) (fun s => by kernel_rfl) run (by kernel_rfl) (by kernel_rfl) (by kernel_rfl) (by rfl) (by first | assumption | decide +kernel) (by decide +kernel) ⟨rfl, rfl, rfl, rfl, rfl, by decide +kernel⟩ ?hw ?hc
  case hw => w_witness2
  case hc =>
    refine La.walk_ofW (l := PySem.Challenge.rw_latehall_k75_rooms) (n := 63) (k := 5) (x := "script") (CX := fun w => L2.CX (PySem.Challenge.rw_latehall_k75_rooms).prog w) rfl (by decide) (by kernel_rfl) ⟨rfl, by decide, by decide⟩ ?F (fun _ _ _ _ _ z => La.noCX z)
    intro w mg f h Y G hmg0
    obtain ⟨K, KX, c⟩ := Y
    have hmg : mg ("law" : PySem.Str) = some (.ref f) := by
      have e : (HandSHeadRun.topDef (OpenLaw.row PySem.Challenge.rw_latehall_k75_rooms).prog 13).name = ("law" : PySem.Str) := by kernel_rfl
      rw [← e]
      exact hmg0
    obtain ⟨fd, hb, hF⟩ := facts (P := (PySem.Challenge.rw_latehall_k75_rooms).prog) (w := w) KX G hmg c
    exact ⟨K, fd, _, KX, hb, fun H a ns hl _ hS => La.law_sp hS (pl ns hl), hF⟩
end Wk75

set_option Elab.async false
set_option linter.all false
set_option maxRecDepth 100000
set_option maxHeartbeats 1000000
/-! R75: what the walk of k75 reckons is True. -/
namespace Wk75
open PySem La
def pr (q : Int × Int) : D := .tup [.int q.1, .int q.2]
def prs (a : List (Int × Int)) : List D := a.map pr
def room (a : List (Int × Int)) : MO := .ins "Room" [("stretches", .lst (prs a))]
def feed (d s : Int) : MO := .lst [.int d, .int s]
theorem log_ok {many : Int} (h : 0 < many) (h2 : many < 2 ^ 64) : many.natAbs.log2 < 9000 := by
  have : many.natAbs.log2 < 64 := by
    rw [Nat.log2_lt (by omega)]
    omega
  omega
theorem take_eq (d s many : Int) (r : Mem) (h : 0 < many) (h2 : many < 2 ^ 64) : ∃ v d' s', 0 ≤ v ∧ v < many ∧ fe__law_take [.obj 0, .int many] (feed d s :: r) = .ok (.int v) (feed d' s' :: r) := by
  have hl := log_ok h h2
  by_cases c : 0 < d
  · refine ⟨d % many, d / many, s, Int.emod_nonneg _ (by omega), Int.emod_lt_of_pos _ h, ?_⟩
    simp [fe__law_take, ev__law_take, feed, c, h, hl, fnv, sSeq, sIf, sSet, sRet, sNx, sDo, tOf, tAnd, tOr, tNot, eAnd, eNot, eBin, eUn, eVar, eC, eCall, eMeth, eFld, aCons, aNil, eTup, eLst, sget, R.ofO, drf, dB, dIx, dGt, dLt, dMod, dDiv, dMul, dAdd, dSub, dLen, atI0, atI1, ixN0, ixN1, memD, moD, pLst, D.mo, sPutM, isiInt, isiBool, isiList, isiT, dTy]
  · refine ⟨(s * 48271 + 12345) % 2305843009213693951 / 2097152 % many, d, (s * 48271 + 12345) % 2305843009213693951, Int.emod_nonneg _ (by omega), Int.emod_lt_of_pos _ h, ?_⟩
    have l2 : Nat.log2 2097152 < 9000 := by decide +kernel
    simp [fe__law_take, ev__law_take, feed, c, h, hl, l2, fnv, sSeq, sIf, sSet, sRet, sNx, sDo, tOf, tAnd, tOr, tNot, eAnd, eNot, eBin, eUn, eVar, eC, eCall, eMeth, eFld, aCons, aNil, eTup, eLst, sget, R.ofO, drf, dB, dIx, dGt, dLt, dMod, dDiv, dMul, dAdd, dSub, dLen, atI0, atI1, ixN0, ixN1, memD, moD, pLst, D.mo, sPutM, isiInt, isiBool, isiList, isiT, dTy]
theorem pick_eq (d s : Int) (xs : List D) (r : Mem) (h : xs ≠ []) (h2 : xs.length < 1000) : ∃ x d' s', x ∈ xs ∧ fe__law_pick [.obj 0, .lst xs] (feed d s :: r) = .ok x (feed d' s' :: r) := by
  obtain ⟨v, d', s', h0, h1, e⟩ := take_eq d s xs.length r (by have := List.length_pos_iff.mpr h; omega) (by omega)
  obtain ⟨n, rfl⟩ := Int.eq_ofNat_of_zero_le h0
  have hn : n < xs.length := by omega
  refine ⟨xs[n], d', s', List.getElem_mem hn, ?_⟩
  have e2 : L2.atI xs (n : Int) = some xs[n] := by rw [atI_nat, List.getElem?_eq_getElem hn]
  simp [fe__law_pick, ev__law_pick, e, e2, fnv, sSeq, sIf, sSet, sRet, sNx, sDo, tOf, tAnd, tOr, tNot, eAnd, eNot, eBin, eUn, eVar, eC, eCall, eMeth, eFld, aCons, aNil, eTup, eLst, sget, R.ofO, drf, dB, dIx, dGt, dLt, dMod, dDiv, dMul, dAdd, dSub, dLen, atI0, atI1, ixN0, ixN1, memD, moD, pLst, D.mo, sPutM, isiInt, isiBool, isiList, isiT, dTy]
theorem whole_eq (i : Int) (M : Mem) : fe__law_whole [.int i] M = .ok (.bl true) M := by
  simp [fe__law_whole, ev__law_whole, fnv, sSeq, sIf, sSet, sRet, sNx, sDo, tOf, tAnd, tOr, tNot, eAnd, eNot, eBin, eUn, eVar, eC, eCall, eMeth, eFld, aCons, aNil, eTup, eLst, sget, R.ofO, drf, dB, dIx, dGt, dLt, dMod, dDiv, dMul, dAdd, dSub, dLen, atI0, atI1, ixN0, ixN1, memD, moD, pLst, D.mo, sPutM, isiInt, isiBool, isiList, isiT, dTy]
/-- where it lies free -/
def place (len at_ : Int) : List (Int × Int) → Int
  | [] => at_
  | q :: r => place len (if q.1 < at_ + len then q.1 + q.2 else at_) r
theorem place_for (len : Int) (M : Mem) (o : Option D) : ∀ (a : List (Int × Int)) (at_ : Int) (u v : Option D), ∃ u' v', forD (gT 2 (gMore (gN 3) (gMore (gN 4) gNone))) (sIf (tOf (eBin dLt (eVar 3) (eBin dAdd (eVar 2) (eVar 1)))) (sSet 2 (eBin dAdd (eVar 3) (eVar 4))) sNx) (prs a) [o, some (.int len), some (.int at_), u, v] M =
    .nx [o, some (.int len), some (.int (place len at_ a)), u', v'] M
  | [], at_, u, v => ⟨u, v, rfl⟩
  | q :: a, at_, u, v => by
    obtain ⟨u', v', ih⟩ := place_for len M o a (if q.1 < at_ + len then q.1 + q.2 else at_) (some (.int q.1)) (some (.int q.2))
    refine ⟨u', v', ?_⟩
    rw [place, ← ih]
    by_cases c : q.1 < at_ + len
    · simp [prs, pr, forD, gT, gMore, gN, gNone, c, fnv, sSeq, sIf, sSet, sRet, sNx, sDo, tOf, tAnd, tOr, tNot, eAnd, eNot, eBin, eUn, eVar, eC, eCall, eMeth, eFld, aCons, aNil, eTup, eLst, sget, R.ofO, drf, dB, dIx, dGt, dLt, dMod, dDiv, dMul, dAdd, dSub, dLen, atI0, atI1, ixN0, ixN1, memD, moD, pLst, D.mo, sPutM, isiInt, isiBool, isiList, isiT, dTy]
    · simp [prs, pr, forD, gT, gMore, gN, gNone, c, fnv, sSeq, sIf, sSet, sRet, sNx, sDo, tOf, tAnd, tOr, tNot, eAnd, eNot, eBin, eUn, eVar, eC, eCall, eMeth, eFld, aCons, aNil, eTup, eLst, sget, R.ofO, drf, dB, dIx, dGt, dLt, dMod, dDiv, dMul, dAdd, dSub, dLen, atI0, atI1, ixN0, ixN1, memD, moD, pLst, D.mo, sPutM, isiInt, isiBool, isiList, isiT, dTy]
theorem place_eq (a : List (Int × Int)) (len : Int) (M : Mem) : fe__law_place [.lst (prs a), .int len] M = .ok (.int (place len 0 a)) M := by
  obtain ⟨u, v, e⟩ := place_for len M (some (.lst (prs a))) a 0 none none
  simp [fe__law_place, ev__law_place, sFor, iSeq, dSeq, e, fnv, sSeq, sIf, sSet, sRet, sNx, sDo, tOf, tAnd, tOr, tNot, eAnd, eNot, eBin, eUn, eVar, eC, eCall, eMeth, eFld, aCons, aNil, eTup, eLst, sget, R.ofO, drf, dB, dIx, dGt, dLt, dMod, dDiv, dMul, dAdd, dSub, dLen, atI0, atI1, ixN0, ixN1, memD, moD, pLst, D.mo, sPutM, isiInt, isiBool, isiList, isiT, dTy]
/-! ### a room -/
/-- the stretches' own order -/
def Good : Int → List (Int × Int) → Prop
  | _, [] => True
  | lo, q :: r => lo ≤ q.1 ∧ 1 ≤ q.2 ∧ Good (q.1 + q.2) r
/-- how many lie ahead, where it lies free -/
def scan (len at_ : Int) : List (Int × Int) → Nat × Int
  | [] => (0, at_)
  | q :: r => if q.1 < at_ + len then ((scan len (q.1 + q.2) r).1 + 1, (scan len (q.1 + q.2) r).2) else (0, at_)
theorem place_stay (len : Int) : ∀ (a : List (Int × Int)) (at_ lo : Int), Good lo a → at_ + len ≤ lo → place len at_ a = at_
  | [], at_, lo, _, _ => rfl
  | q :: r, at_, lo, h, hl => by
    obtain ⟨h1, h2, h3⟩ := h
    rw [place, if_neg (by omega)]
    exact place_stay len r at_ _ h3 (by omega)
theorem place_scan (len : Int) (hl : 1 ≤ len) : ∀ (a : List (Int × Int)) (at_ : Int), Good at_ a → place len at_ a = (scan len at_ a).2
  | [], _, _ => rfl
  | q :: r, at_, h => by
    obtain ⟨h1, h2, h3⟩ := h
    rw [place, scan]
    by_cases c : q.1 < at_ + len
    · rw [if_pos c, if_pos c]
      exact place_scan len hl r _ h3
    · rw [if_neg c, if_neg c]
      exact place_stay len r at_ _ h3 (by omega)
def putR (len at_ : Int) : List (Int × Int) → List (Int × Int)
  | [] => [(at_, len)]
  | q :: r => if q.1 < at_ + len then q :: putR len (q.1 + q.2) r else (at_, len) :: q :: r
theorem putR_eq (len : Int) : ∀ (a : List (Int × Int)) (at_ : Int), putR len at_ a = a.take (scan len at_ a).1 ++ [((scan len at_ a).2, len)] ++ a.drop (scan len at_ a).1
  | [], _ => rfl
  | q :: r, at_ => by
    rw [putR, scan]
    by_cases c : q.1 < at_ + len
    · rw [if_pos c, if_pos c, putR_eq len r]
      simp
    · rw [if_neg c, if_neg c]
      simp
theorem putR_len (len : Int) : ∀ (a : List (Int × Int)) (at_ : Int), (putR len at_ a).length = a.length + 1
  | [], _ => rfl
  | q :: r, at_ => by
    rw [putR]
    split
    · rw [List.length_cons, putR_len len r, List.length_cons]
    · rfl
theorem Good.le {lo lo' : Int} (h : lo' ≤ lo) : ∀ {a : List (Int × Int)}, Good lo a → Good lo' a
  | [], _ => True.intro
  | q :: r, g => ⟨by have := g.1; omega, g.2.1, g.2.2⟩
theorem putR_good (len : Int) (hl : 1 ≤ len) : ∀ (a : List (Int × Int)) (at_ : Int), Good at_ a → Good at_ (putR len at_ a)
  | [], at_, _ => ⟨Int.le_refl _, hl, True.intro⟩
  | q :: r, at_, h => by
    obtain ⟨h1, h2, h3⟩ := h
    rw [putR]
    by_cases c : q.1 < at_ + len
    · rw [if_pos c]
      exact ⟨h1, h2, putR_good len hl r _ h3⟩
    · rw [if_neg c]
      exact ⟨Int.le_refl _, hl, by show at_ + len ≤ q.1; omega, h2, h3⟩
theorem filt_good (p : Int × Int → Bool) : ∀ (a : List (Int × Int)) (lo : Int), Good lo a → Good lo (a.filter p)
  | [], _, _ => True.intro
  | q :: r, lo, h => by
    obtain ⟨h1, h2, h3⟩ := h
    rw [List.filter_cons]
    split
    · exact ⟨h1, h2, filt_good p r _ h3⟩
    · exact Good.le (by omega) (filt_good p r _ h3)
/-! sorted -/
theorem insP_end {q : Int × Int} : ∀ (acc : List (Int × Int)), (∀ y ∈ acc, y.1 < q.1) → insP keyP (pr q) (prs acc) = prs acc ++ [pr q]
  | [], _ => rfl
  | y :: r, h => by
    have hy := h y List.mem_cons_self
    have ih := insP_end r fun z hz => h z (List.mem_cons_of_mem _ hz)
    have e : SrtO.lexB (keyP (pr q)) (keyP (pr y)) = false := SrtO.lexB_no.mpr (by simp [keyP, pr]; omega)
    show (if SrtO.lexB (keyP (pr q)) (keyP (pr y)) = true then _ else pr y :: insP keyP (pr q) (prs r)) = _
    rw [e, if_neg Bool.false_ne_true, ih]
    rfl
theorem Good.all_lt : ∀ {a : List (Int × Int)} {lo : Int}, Good lo a → ∀ y ∈ a, lo ≤ y.1
  | [], _, _, _, h => nomatch h
  | q :: r, lo, g, y, h => by
    rcases List.mem_cons.mp h with rfl | h
    · exact g.1
    · have := Good.all_lt g.2.2 y h
      have := g.1
      have := g.2.1
      omega
theorem srt_id : ∀ (a acc : List (Int × Int)) (lo : Int), Good lo a → (∀ y ∈ acc, y.1 < lo) → ∀ t : List D, srtP keyP (prs acc) (prs a ++ t) = srtP keyP (prs (acc ++ a)) t
  | [], acc, _, _, _, t => by rw [List.append_nil]; rfl
  | q :: r, acc, lo, g, h, t => by
    have hq : ∀ y ∈ acc, y.1 < q.1 := fun y hy => by have := h y hy; have := g.1; omega
    show srtP keyP (insP keyP (pr q) (prs acc)) (prs r ++ t) = _
    rw [insP_end acc hq]
    have e : prs acc ++ [pr q] = prs (acc ++ [q]) := by simp [prs]
    rw [e, srt_id r (acc ++ [q]) (q.1 + q.2) g.2.2 (fun y hy => ?_) t, List.append_assoc]
    · rfl
    · have := g.2.1
      rcases List.mem_append.mp hy with hy | hy
      · have := hq y hy; omega
      · rw [List.mem_singleton.mp hy]; omega
theorem insP_put (len : Int) (hl : 1 ≤ len) : ∀ (a : List (Int × Int)) (at_ : Int), Good at_ a → insP keyP (pr ((scan len at_ a).2, len)) (prs a) = prs (putR len at_ a)
  | [], _, _ => rfl
  | q :: r, at_, g => by
    rw [scan, putR]
    by_cases c : q.1 < at_ + len
    · rw [if_pos c, if_pos c]
      have ih := insP_put len hl r _ g.2.2
      have hs : q.1 + q.2 ≤ (scan len (q.1 + q.2) r).2 := scan_ge len r _ g.2.2
      have e : SrtO.lexB (keyP (pr ((scan len (q.1 + q.2) r).2, len))) (keyP (pr q)) = false := SrtO.lexB_no.mpr (by have := g.2.1; simp [keyP, pr]; omega)
      show (if SrtO.lexB (keyP (pr ((scan len (q.1 + q.2) r).2, len))) (keyP (pr q)) = true then _ else pr q :: insP keyP (pr ((scan len (q.1 + q.2) r).2, len)) (prs r)) = _
      rw [e, if_neg Bool.false_ne_true, ih]
      rfl
    · rw [if_neg c, if_neg c]
      have e : SrtO.lexB (keyP (pr (at_, len))) (keyP (pr q)) = true := SrtO.lexB_iff.mpr (by simp [keyP, pr]; omega)
      show (if SrtO.lexB (keyP (pr (at_, len))) (keyP (pr q)) = true then pr (at_, len) :: pr q :: prs r else _) = _
      rw [e, if_pos rfl]
      rfl
where
  scan_ge (len : Int) : ∀ (a : List (Int × Int)) (at_ : Int), Good at_ a → at_ ≤ (scan len at_ a).2
    | [], _, _ => Int.le_refl _
    | q :: r, at_, g => by
      rw [scan]
      split
      · have := scan_ge len r _ g.2.2
        have := g.1
        have := g.2.1
        show at_ ≤ (scan len (q.1 + q.2) r).2
        omega
      · exact Int.le_refl _
theorem sort_eq (a : List (Int × Int)) (len : Int) (hl : 1 ≤ len) (g : Good 0 a) : dSortP (.lst (prs a ++ [pr (place len 0 a, len)])) = some (.lst (prs (putR len 0 a))) := by
  have h1 : (prs a ++ [pr (place len 0 a, len)]).all isPr = true := by
    rw [List.all_eq_true]
    intro x hx
    rcases List.mem_append.mp hx with hx | hx
    · obtain ⟨q, _, rfl⟩ := List.mem_map.mp hx
      rfl
    · rw [List.mem_singleton.mp hx]
      rfl
  have h2 := srt_id a [] 0 g (fun _ h => nomatch h) [pr (place len 0 a, len)]
  rw [List.nil_append] at h2
  show (if (prs a ++ [pr (place len 0 a, len)]).all isPr = true then some (D.lst (srtP keyP [] (prs a ++ [pr (place len 0 a, len)]))) else none) = _
  rw [if_pos h1]
  show some (D.lst (srtP keyP (prs []) (prs a ++ [pr (place len 0 a, len)]))) = _
  rw [h2]
  show some (D.lst (insP keyP (pr (place len 0 a, len)) (prs a))) = _
  rw [place_scan len hl a 0 g, insP_put len hl a 0 g]
/-! ### the room's methods -/
theorem taken_eq (l : Nat) (a : List (Int × Int)) (M : Mem) (h : M[l]? = some (room a)) : fe_Room_taken [.obj l] M = .ok (.lst (prs a)) M := by
  simp [fe_Room_taken, ev_Room_taken, getO, h, room, lookF, dList, fnv, sSeq, sIf, sSet, sRet, sNx, sDo, tOf, tAnd, tOr, tNot, eAnd, eNot, eBin, eUn, eVar, eC, eCall, eMeth, eFld, aCons, aNil, eTup, eLst, sget, R.ofO, drf, dB, dIx, dGt, dLt, dMod, dDiv, dMul, dAdd, dSub, dLen, atI0, atI1, ixN0, ixN1, memD, moD, pLst, D.mo, sPutM, isiInt, isiBool, isiList, isiT, dTy]
theorem wh (l : Nat) (M : Mem) (len : Int) (a : List (Int × Int)) (hM : M[l]? = some (room a)) : ∀ (r : List (Int × Int)) (k : Nat) (at_ : Int), a.drop k = r → whN (tAnd (tOf (eBin dLt (eVar 3) (eUn dLen (eFld "Room" "stretches" (eVar 0))))) (tOf (eBin dLt (eBin dIx (eBin dIx (eFld "Room" "stretches" (eVar 0)) (eVar 3)) (eC (.int 0))) (eBin dAdd (eVar 2) (eVar 1)))))
    (sSeq (sSet 2 (eBin dAdd (eBin dIx (eBin dIx (eFld "Room" "stretches" (eVar 0)) (eVar 3)) (eC (.int 0))) (eBin dIx (eBin dIx (eFld "Room" "stretches" (eVar 0)) (eVar 3)) (eC (.int 1))))) (sAug dAddI 3 (eC (.int 1)))) (r.length + 1)
    [some (.obj l), some (.int len), some (.int at_), some (.int k)] M = .nx [some (.obj l), some (.int len), some (.int (scan len at_ r).2), some (.int ((k + (scan len at_ r).1 : Nat) : Int))] M
  | [], k, at_, e => by
    have hk : a.length ≤ k := by
      have := congrArg List.length e
      simp at this
      omega
    have c : ¬ (k : Int) < (a.length : Int) := by omega
    simp [whN, scan, getO, hM, room, lookF, prs, c, fnv, sSeq, sIf, sSet, sRet, sNx, sDo, tOf, tAnd, tOr, tNot, eAnd, eNot, eBin, eUn, eVar, eC, eCall, eMeth, eFld, aCons, aNil, eTup, eLst, sget, R.ofO, drf, dB, dIx, dGt, dLt, dMod, dDiv, dMul, dAdd, dSub, dLen, atI0, atI1, ixN0, ixN1, memD, moD, pLst, D.mo, sPutM, isiInt, isiBool, isiList, isiT, dTy]
  | q :: r, k, at_, e => by
    have hk : k < a.length := by
      have := congrArg List.length e
      simp at this
      omega
    have c : (k : Int) < (a.length : Int) := by omega
    have hq : a[k]? = some q := by
      have := congrArg (fun l => l[0]?) e
      simpa using this
    have ix : L2.atI (a.map pr) (k : Int) = some (pr q) := by rw [atI_nat, List.getElem?_map, hq]; rfl
    have e2 : a.drop (k + 1) = r := by
      have := congrArg List.tail e
      simpa using this
    have ih := wh l M len a hM r (k + 1) (q.1 + q.2) e2
    rw [scan]
    by_cases d : q.1 < at_ + len
    · rw [if_pos d]
      rw [List.length_cons, whN]
      have h1 : ((k + 1 : Nat) : Int) = (k : Int) + 1 := by omega
      rw [h1] at ih
      have h2 : k + ((scan len (q.1 + q.2) r).1 + 1) = k + 1 + (scan len (q.1 + q.2) r).1 := by omega
      simp only [h2]
      rw [← ih]
      simp [getO, hM, room, lookF, prs, c, d, ix, pr, sAug, dAddI, fnv, sSeq, sIf, sSet, sRet, sNx, sDo, tOf, tAnd, tOr, tNot, eAnd, eNot, eBin, eUn, eVar, eC, eCall, eMeth, eFld, aCons, aNil, eTup, eLst, sget, R.ofO, drf, dB, dIx, dGt, dLt, dMod, dDiv, dMul, dAdd, dSub, dLen, atI0, atI1, ixN0, ixN1, memD, moD, pLst, D.mo, sPutM, isiInt, isiBool, isiList, isiT, dTy]
    · rw [if_neg d]
      simp [whN, getO, hM, room, lookF, prs, c, d, ix, pr, sAug, dAddI, fnv, sSeq, sIf, sSet, sRet, sNx, sDo, tOf, tAnd, tOr, tNot, eAnd, eNot, eBin, eUn, eVar, eC, eCall, eMeth, eFld, aCons, aNil, eTup, eLst, sget, R.ofO, drf, dB, dIx, dGt, dLt, dMod, dDiv, dMul, dAdd, dSub, dLen, atI0, atI1, ixN0, ixN1, memD, moD, pLst, D.mo, sPutM, isiInt, isiBool, isiList, isiT, dTy]
theorem scan_le (len : Int) : ∀ (a : List (Int × Int)) (at_ : Int), (scan len at_ a).1 ≤ a.length
  | [], _ => Nat.le_refl _
  | q :: r, at_ => by
    rw [scan]
    split
    · have := scan_le len r (q.1 + q.2)
      show (scan len (q.1 + q.2) r).1 + 1 ≤ r.length + 1
      omega
    · exact Nat.zero_le _
theorem rtake_eq (l : Nat) (a : List (Int × Int)) (len : Int) (M : Mem) (h : M[l]? = some (room a)) (hz : a.length ≤ 1000) : fe_Room_take [.obj l, .int len] M = .ok (.int (scan len 0 a).2) (M.set l (room (putR len 0 a))) := by
  have hw := wh l M len a h a 0 0 rfl
  have hw2 := sWhile_eq hw (by simp)
  have hl := scan_le len a 0
  have z1 : ((scan len 0 a).1 : Int) ≤ 1000000 := by omega
  have z2 : (prs a).length ≤ 1000000 := by simp [prs]; omega
  have z3 : prs (putR len 0 a) = (prs a).take (scan len 0 a).1 ++ [pr ((scan len 0 a).2, len)] ++ (prs a).drop (scan len 0 a).1 := by
    rw [putR_eq]
    simp [prs]
  have z4 : (((0 : Nat) + (scan len 0 a).1 : Nat) : Int) = ((scan len 0 a).1 : Int) := by omega
  have z6 : ((0 : Nat) : Int) = 0 := rfl
  simp only [z4] at hw2
  rw [z6] at hw2
  have z5 : (0 : Int) ≤ ((scan len 0 a).1 : Int) := by omega
  simp [fe_Room_take, ev_Room_take, hw2, sMutF, getO, h, room, lookF, putFd, D.isLst, mIns, z1, z2, z3, z5, pr, fnv, sSeq, sIf, sSet, sRet, sNx, sDo, tOf, tAnd, tOr, tNot, eAnd, eNot, eBin, eUn, eVar, eC, eCall, eMeth, eFld, aCons, aNil, eTup, eLst, sget, R.ofO, drf, dB, dIx, dGt, dLt, dMod, dDiv, dMul, dAdd, dSub, dLen, atI0, atI1, ixN0, ixN1, memD, moD, pLst, D.mo, sPutM, isiInt, isiBool, isiList, isiT, dTy]
def without (at_ : Int) (a : List (Int × Int)) : List (Int × Int) := a.filter fun q => decide (q.1 ≠ at_)
theorem gb_lc (at_ : Int) (M : Mem) (sd0 : Sd) (x y : Option D) (hsd : sd0 = [x, some (.int at_), y, none]) : ∀ (a : List (Int × Int)), lcD (gN 3) (tOf (eBin dNeo (eBin dIx (eVar 3) (eC (.int 0))) (eVar 1))) (eVar 3) sd0 (prs a) M = .ok (prs (without at_ a)) M
  | [] => rfl
  | q :: a => by
    have ih := gb_lc at_ M sd0 x y hsd a
    subst hsd
    by_cases z : q.1 = at_
    · have e : without at_ (q :: a) = without at_ a := by simp [without, z]
      rw [e]
      simp [prs, pr, lcD, gN, neInt, z, fnv, sSeq, sIf, sSet, sRet, sNx, sDo, tOf, tAnd, tOr, tNot, eAnd, eNot, eBin, eUn, eVar, eC, eCall, eMeth, eFld, aCons, aNil, eTup, eLst, sget, R.ofO, drf, dB, dIx, dGt, dLt, dMod, dDiv, dMul, dAdd, dSub, dLen, atI0, atI1, ixN0, ixN1, memD, moD, pLst, D.mo, sPutM, isiInt, isiBool, isiList, isiT, dTy] at ih ⊢
      exact ih
    · have e : without at_ (q :: a) = q :: without at_ a := by simp [without, z]
      rw [e]
      simp [prs, pr, lcD, gN, neInt, z, fnv, sSeq, sIf, sSet, sRet, sNx, sDo, tOf, tAnd, tOr, tNot, eAnd, eNot, eBin, eUn, eVar, eC, eCall, eMeth, eFld, aCons, aNil, eTup, eLst, sget, R.ofO, drf, dB, dIx, dGt, dLt, dMod, dDiv, dMul, dAdd, dSub, dLen, atI0, atI1, ixN0, ixN1, memD, moD, pLst, D.mo, sPutM, isiInt, isiBool, isiList, isiT, dTy] at ih ⊢
      rw [ih]
      rfl
theorem pls_prs : ∀ a : List (Int × Int), D.pls (prs a) = true
  | [] => rfl
  | q :: a => by
    show (D.pl (pr q) && D.pls (prs a)) = true
    rw [pls_prs a]
    rfl
theorem rks_prs : ∀ a : List (Int × Int), D.rks (prs a) ≤ 1
  | [] => Nat.zero_le _
  | q :: a => by
    have := rks_prs a
    show max (D.rk (pr q)) (D.rks (prs a)) ≤ 1
    have h : D.rk (pr q) = 1 := rfl
    omega
theorem ok_prs (a b : List (Int × Int)) : okEq (.lst (prs a)) (.lst (prs b)) = true := by
  have h1 := rks_prs a
  have h2 := rks_prs b
  have h3 : D.rk (.lst (prs a)) = D.rks (prs a) + 1 := rfl
  simp [okEq, D.pl, pls_prs, h3]
  omega
theorem eq_prs : ∀ a : List (Int × Int), PyData.eqvAll (D.pys (prs a)) (D.pys (prs a)) = true
  | [] => rfl
  | q :: a => by
    show (PyData.eqv (D.py (pr q)) (D.py (pr q)) && PyData.eqvAll (D.pys (prs a)) (D.pys (prs a))) = true
    rw [eq_prs a]
    simp [pr, D.py, D.pys, PyData.eqv, PyData.eqvAll]
theorem ne_prs (a : List (Int × Int)) : dNeo (.lst (prs a)) (.lst (prs a)) = some (.bl false) := by
  have h : dEq (.lst (prs a)) (.lst (prs a)) = true := eq_prs a
  simp [dNeo, ok_prs, h]
theorem eq_nil (a : List (Int × Int)) : dEqo (.lst (prs a)) (.lst []) = some (.bl a.isEmpty) := by
  have h1 := ok_prs a []
  rw [show prs [] = ([] : List D) from rfl] at h1
  cases a with
  | nil => rfl
  | cons q a => simp [dEqo, h1]; rfl
theorem ne_nil (a : List (Int × Int)) : dNeo (.lst (prs a)) (.lst []) = some (.bl !a.isEmpty) := by
  have h1 := ok_prs a []
  rw [show prs [] = ([] : List D) from rfl] at h1
  cases a with
  | nil => rfl
  | cons q a => simp [dNeo, h1]; rfl
theorem ne_pr (p q : Int × Int) : dNeo (pr p) (pr q) = some (.bl (decide (p ≠ q))) := by
  obtain ⟨p1, p2⟩ := p
  obtain ⟨q1, q2⟩ := q
  by_cases z : p1 = q1 <;> by_cases y : p2 = q2 <;> simp [pr, dNeo, okEq, D.pl, D.pls, D.rk, D.rks, dEq, D.py, D.pys, PyData.eqv, PyData.eqvAll, z, y]
/-! giving back -/
theorem gb_eq (l : Nat) (a : List (Int × Int)) (at_ : Int) (M : Mem) (h : M[l]? = some (room a)) (hz : a.length ≤ 1000) (hat : at_ ∈ a.map (·.1)) : fe_Room_give_back [.obj l, .int at_] M = .ok .non (M.set l (room (without at_ a))) := by
  have e := gb_lc at_ M [some (.obj l), some (.int at_), none, none] (some (.obj l)) none rfl a
  have hl : (prs a).length ≤ 1000000 := by simp [prs]; omega
  have hn : ¬ (((prs (without at_ a)).length : Int) = ((prs a).length : Int)) := by
    obtain ⟨q, hq, rfl⟩ := List.mem_map.mp hat
    have : (without q.1 a).length < a.length := List.length_filter_lt_length_iff_exists.mpr ⟨q, hq, by simp⟩
    simp only [prs, List.length_map]
    omega
  simp [fe_Room_give_back, ev_Room_give_back, getO, h, room, lookF, eLc, iSeqM, dSeq, wipeD, e, hl, hn, eqInt, sFldT, putFd, fnv, sSeq, sIf, sSet, sRet, sNx, sDo, tOf, tAnd, tOr, tNot, eAnd, eNot, eBin, eUn, eVar, eC, eCall, eMeth, eFld, aCons, aNil, eTup, eLst, sget, R.ofO, drf, dB, dIx, dGt, dLt, dMod, dDiv, dMul, dAdd, dSub, dLen, atI0, atI1, ixN0, ixN1, memD, moD, pLst, D.mo, sPutM, isiInt, isiBool, isiList, isiT, dTy]
theorem gb_exc (l : Nat) (a : List (Int × Int)) (at_ : Int) (M : Mem) (h : M[l]? = some (room a)) (hz : a.length ≤ 1000) (hat : at_ ∉ a.map (·.1)) : fe_Room_give_back [.obj l, .int at_] M = .exc ⟨"NotTaken", [("at", .int at_)]⟩ M := by
  have e := gb_lc at_ M [some (.obj l), some (.int at_), none, none] (some (.obj l)) none rfl a
  have hl : (prs a).length ≤ 1000000 := by simp [prs]; omega
  have hf : without at_ a = a := by
    unfold without
    rw [List.filter_eq_self]
    intro q hq
    exact decide_eq_true fun z => hat (List.mem_map.mpr ⟨q, hq, z⟩)
  rw [hf] at e
  simp [fe_Room_give_back, ev_Room_give_back, getO, h, room, lookF, eLc, iSeqM, dSeq, wipeD, e, hl, eqInt, sRaise, mk1, fnv, sSeq, sIf, sSet, sRet, sNx, sDo, tOf, tAnd, tOr, tNot, eAnd, eNot, eBin, eUn, eVar, eC, eCall, eMeth, eFld, aCons, aNil, eTup, eLst, sget, R.ofO, drf, dB, dIx, dGt, dLt, dMod, dDiv, dMul, dAdd, dSub, dLen, atI0, atI1, ixN0, ixN1, memD, moD, pLst, D.mo, sPutM, isiInt, isiBool, isiList, isiT, dTy]
theorem refused_eq (l : Nat) (a : List (Int × Int)) (at_ : Int) (M : Mem) (h : M[l]? = some (room a)) (hz : a.length ≤ 1000) (hat : at_ ∉ a.map (·.1)) : fe__law_refused [.obj l, .int at_] M = .ok (.bl true) M := by
  have e := gb_exc l a at_ M h hz hat
  have hne : ¬ (("give_back" : Str) = "stretches") := by decide
  simp [fe__law_refused, ev__law_refused, sTry, pick, tabM, List.lookup, endF, putD', clrD, getO, h, room, hne, e, dIsX, dXfs, lookF, eqInt, whole_eq, fnv, sSeq, sIf, sSet, sRet, sNx, sDo, tOf, tAnd, tOr, tNot, eAnd, eNot, eBin, eUn, eVar, eC, eCall, eMeth, eFld, aCons, aNil, eTup, eLst, sget, R.ofO, drf, dB, dIx, dGt, dLt, dMod, dDiv, dMul, dAdd, dSub, dLen, atI0, atI1, ixN0, ixN1, memD, moD, pLst, D.mo, sPutM, isiInt, isiBool, isiList, isiT, dTy]
/-! the end of the last -/
def endOf : List (Int × Int) → Int
  | [] => 0
  | [q] => q.1 + q.2
  | _ :: r => endOf r
theorem endOf_app (q : Int × Int) : ∀ a : List (Int × Int), endOf (a ++ [q]) = q.1 + q.2
  | [] => rfl
  | [p] => rfl
  | p :: p' :: r => by
    show endOf ((p' :: r) ++ [q]) = _
    exact endOf_app q (p' :: r)
theorem height_eq (l : Nat) (a : List (Int × Int)) (M : Mem) (h : M[l]? = some (room a)) : fe_Room_height [.obj l] M = .ok (.int (endOf a)) M := by
  rcases List.eq_nil_or_concat a with rfl | ⟨b, q, rfl⟩
  · have e := eq_nil []
    rw [show prs [] = ([] : List D) from rfl] at e
    simp [fe_Room_height, ev_Room_height, getO, h, room, prs, e, lookF, endOf, fnv, sSeq, sIf, sSet, sRet, sNx, sDo, tOf, tAnd, tOr, tNot, eAnd, eNot, eBin, eUn, eVar, eC, eCall, eMeth, eFld, aCons, aNil, eTup, eLst, sget, R.ofO, drf, dB, dIx, dGt, dLt, dMod, dDiv, dMul, dAdd, dSub, dLen, atI0, atI1, ixN0, ixN1, memD, moD, pLst, D.mo, sPutM, isiInt, isiBool, isiList, isiT, dTy]
  · rw [List.concat_eq_append] at h ⊢
    have e := eq_nil (b ++ [q])
    have e1 : L2.atI (prs (b ++ [q])) (-1) = some (pr q) := by
      have : prs (b ++ [q]) = prs b ++ [pr q] := by simp [prs]
      rw [this, atI_last]
    have e3 : (b ++ [q]).isEmpty = false := by cases b <;> rfl
    rw [e3] at e
    rw [endOf_app]
    simp [fe_Room_height, ev_Room_height, getO, h, room, e, e1, lookF, sAsg, gT, gMore, gN, gNone, dNeg, pr, fnv, sSeq, sIf, sSet, sRet, sNx, sDo, tOf, tAnd, tOr, tNot, eAnd, eNot, eBin, eUn, eVar, eC, eCall, eMeth, eFld, aCons, aNil, eTup, eLst, sget, R.ofO, drf, dB, dIx, dGt, dLt, dMod, dDiv, dMul, dAdd, dSub, dLen, atI0, atI1, ixN0, ixN1, memD, moD, pLst, D.mo, sPutM, isiInt, isiBool, isiList, isiT, dTy]
theorem max_ends : ∀ (a : List (Int × Int)) (lo : Int), Good lo a → maxL lo (a.map fun q => q.1 + q.2) = if a = [] then lo else endOf a
  | [], _, _ => rfl
  | q :: r, lo, g => by
    have ih := max_ends r _ g.2.2
    rw [List.map_cons, maxL, show max lo (q.1 + q.2) = q.1 + q.2 from by have := g.1; have := g.2.1; omega, ih, if_neg (List.cons_ne_nil _ _)]
    cases r with
    | nil => rfl
    | cons p r => rw [if_neg (List.cons_ne_nil _ _)]; rfl
theorem ints_ends (a : List (Int × Int)) : intsD (a.map fun q => D.int (q.1 + q.2)) = some (a.map fun q => q.1 + q.2) := by
  induction a with
  | nil => rfl
  | cons q a ih => rw [List.map_cons, intsD, ih]; rfl
theorem ends_lc (M : Mem) (x0 x1 x2 x3 x4 : Option D) : ∀ a : List (Int × Int), lcD (gN 5) tTrue (eBin dAdd (eBin dIx (eVar 5) (eC (.int 0))) (eBin dIx (eVar 5) (eC (.int 1)))) [x0, x1, x2, x3, x4, none] (prs a) M = .ok (a.map fun q => D.int (q.1 + q.2)) M
  | [] => rfl
  | q :: a => by
    have ih := ends_lc M x0 x1 x2 x3 x4 a
    simp [prs, pr, lcD, gN, tTrue, fnv, sSeq, sIf, sSet, sRet, sNx, sDo, tOf, tAnd, tOr, tNot, eAnd, eNot, eBin, eUn, eVar, eC, eCall, eMeth, eFld, aCons, aNil, eTup, eLst, sget, R.ofO, drf, dB, dIx, dGt, dLt, dMod, dDiv, dMul, dAdd, dSub, dLen, atI0, atI1, ixN0, ixN1, memD, moD, pLst, D.mo, sPutM, isiInt, isiBool, isiList, isiT, dTy] at ih ⊢
    rw [ih]
    rfl
theorem whole_lc (M : Mem) (x0 x1 x2 x3 x4 : Option D) : ∀ a : List (Int × Int), lcD (gN 5) tTrue (eAnd (eCall fe__law_whole (aCons (eBin dIx (eVar 5) (eC (.int 0))) aNil)) (eCall fe__law_whole (aCons (eBin dIx (eVar 5) (eC (.int 1))) aNil))) [x0, x1, x2, x3, x4, none] (prs a) M = .ok (a.map fun _ => D.bl true) M
  | [] => rfl
  | q :: a => by
    have ih := whole_lc M x0 x1 x2 x3 x4 a
    simp [prs, pr, lcD, gN, tTrue, whole_eq, fnv, sSeq, sIf, sSet, sRet, sNx, sDo, tOf, tAnd, tOr, tNot, eAnd, eNot, eBin, eUn, eVar, eC, eCall, eMeth, eFld, aCons, aNil, eTup, eLst, sget, R.ofO, drf, dB, dIx, dGt, dLt, dMod, dDiv, dMul, dAdd, dSub, dLen, atI0, atI1, ixN0, ixN1, memD, moD, pLst, D.mo, sPutM, isiInt, isiBool, isiList, isiT, dTy] at ih ⊢
    rw [ih]
    rfl
theorem all_true (a : List (Int × Int)) : dAll (.lst (a.map fun _ => D.bl true)) = some (.bl true) := by
  have h : blsOf (a.map fun _ => D.bl true) = some (a.map fun _ => true) := by
    induction a with
    | nil => rfl
    | cons q a ih => rw [List.map_cons, blsOf, ih]; rfl
  simp [dAll, h]
noncomputable def bodyS : Sv := sSeq (sSet 3 (eMeth "Room" "taken" fe_Room_taken (eVar 0) aNil)) (sSeq (sIf (tOr (tNot (tOf (eUn isiList (eVar 3)))) (tOf (eBin dNeo (eVar 3) (eVar 1)))) (sRet (eC (.bl false))) sNx)
    (sSeq (sIf (tNot (tOf (eUn dAll (eLc (iSeq (eVar 3)) [5] (gN 5) tTrue (eAnd (eCall fe__law_whole (aCons (eBin dIx (eVar 5) (eC (.int 0))) aNil)) (eCall fe__law_whole (aCons (eBin dIx (eVar 5) (eC (.int 1))) aNil))))))) (sRet (eC (.bl false))) sNx)
    (sSeq (sMutS D.isLst mApp 3 (aCons (eTup (aCons (eC (.int 0)) (aCons (eC (.int 1)) aNil))) aNil)) (sMutS D.isLst mRev 3 aNil))))
noncomputable def restS : Sv := sSeq (sSet 4 (eLc (iSeq (eVar 1)) [5] (gN 5) tTrue (eBin dAdd (eBin dIx (eVar 5) (eC (.int 0))) (eBin dIx (eVar 5) (eC (.int 1))))))
  (sRet (eAnd (eCall fe__law_whole (aCons (eMeth "Room" "height" fe_Room_height (eVar 0) aNil) aNil)) (eBin dEqo (eMeth "Room" "height" fe_Room_height (eVar 0) aNil) (eUn dMaxL (eBin dAdd (eLst (aCons (eC (.int 0)) aNil)) (eVar 4))))))
theorem stands_ev : ev__law_stands = sSeq (sFor (iR1 (aCons (eC (.int 2)) aNil)) (gN 2) bodyS) restS := rfl
theorem stands_for (l : Nat) (a : List (Int × Int)) (M : Mem) (h : M[l]? = some (room a)) (hz : a.length ≤ 1000) (x3 x4 x5 : Option D) (k : Int) : bodyS [some (.obj l), some (.lst (prs a)), some (.int k), x3, x4, x5] M = .nx [some (.obj l), some (.lst (prs a)), some (.int k), some (.lst (prs a ++ [D.tup [.int 0, .int 1]]).reverse), x4, x5] M := by
  have hl : (prs a).length ≤ 1000000 := by simp [prs]; omega
  have hne : ¬ (("taken" : Str) = "stretches") := by decide
  have t := taken_eq l a M h
  simp [bodyS, getO, h, room, hne, lookF, t, ne_prs, iSeq, dSeq, eLc, wipeD, hl, whole_lc, all_true, sMutS, D.isLst, mApp, mRev, fnv, sSeq, sIf, sSet, sRet, sNx, sDo, tOf, tAnd, tOr, tNot, eAnd, eNot, eBin, eUn, eVar, eC, eCall, eMeth, eFld, aCons, aNil, eTup, eLst, sget, R.ofO, drf, dB, dIx, dGt, dLt, dMod, dDiv, dMul, dAdd, dSub, dLen, atI0, atI1, ixN0, ixN1, memD, moD, pLst, D.mo, sPutM, isiInt, isiBool, isiList, isiT, dTy]
theorem rest_eq (l : Nat) (a : List (Int × Int)) (M : Mem) (h : M[l]? = some (room a)) (hz : a.length ≤ 1000) (g : Good 0 a) (x2 x3 x4 x5 : Option D) : restS [some (.obj l), some (.lst (prs a)), x2, x3, x4, x5] M = .ret (.bl true) M := by
  have hl : (prs a).length ≤ 1000000 := by simp [prs]; omega
  have hl2 : 1 + a.length ≤ sizeLine := by have : sizeLine = 16777216 := PySem.sizeLine_eq; omega
  have hne : ¬ (("height" : Str) = "stretches") := by decide
  have t := height_eq l a M h
  have hm : dMaxL (.lst (D.int 0 :: a.map fun q => D.int (q.1 + q.2))) = some (.int (endOf a)) := by
    have e : intsD (D.int 0 :: a.map fun q => D.int (q.1 + q.2)) = some (0 :: a.map fun q => q.1 + q.2) := by
      rw [intsD, ints_ends]; rfl
    have m := max_ends a 0 g
    have m2 : maxL 0 (a.map fun q => q.1 + q.2) = endOf a := by
      rw [m]
      cases a with
      | nil => rfl
      | cons q a => rw [if_neg (List.cons_ne_nil _ _)]
    simp [dMaxL, e, m2]
  simp [restS, getO, h, room, hne, lookF, t, iSeq, dSeq, eLc, wipeD, hl, hl2, ends_lc, whole_eq, hm, eqInt, fnv, sSeq, sIf, sSet, sRet, sNx, sDo, tOf, tAnd, tOr, tNot, eAnd, eNot, eBin, eUn, eVar, eC, eCall, eMeth, eFld, aCons, aNil, eTup, eLst, sget, R.ofO, drf, dB, dIx, dGt, dLt, dMod, dDiv, dMul, dAdd, dSub, dLen, atI0, atI1, ixN0, ixN1, memD, moD, pLst, D.mo, sPutM, isiInt, isiBool, isiList, isiT, dTy]
theorem stands_eq (l : Nat) (a : List (Int × Int)) (M : Mem) (h : M[l]? = some (room a)) (hz : a.length ≤ 1000) (g : Good 0 a) : fe__law_stands [.obj l, .lst (prs a)] M = .ok (.bl true) M := by
  have r2 : La.r62 2 := by unfold La.r62; omega
  have e1 := stands_for l a M h hz none none none 0
  have e2 := stands_for l a M h hz (some (.lst (prs a ++ [D.tup [.int 0, .int 1]]).reverse)) none none 1
  have e3 := rest_eq l a M h hz g (some (.int 1)) (some (.lst (prs a ++ [D.tup [.int 0, .int 1]]).reverse)) none none
  have er : rngD 0 2 = [.int 0, .int 1] := rfl
  have ef : sFor (iR1 (aCons (eC (.int 2)) aNil)) (gN 2) bodyS [some (.obj l), some (.lst (prs a)), none, none, none, none] M = .nx [some (.obj l), some (.lst (prs a)), some (.int 1), some (.lst (prs a ++ [D.tup [.int 0, .int 1]]).reverse), none, none] M := by
    unfold sFor iR1
    simp only [aCons, eC, aNil, R.bind_ok, if_pos r2, R.toF_ok]
    rw [show (2 : Int).toNat = 2 from rfl, er, forD]
    simp only [gN, List.set_cons_succ, List.set_cons_zero]
    rw [e1]
    simp only [forD, gN, List.set_cons_succ, List.set_cons_zero]
    rw [e2]
  show fnv 2 6 ev__law_stands _ _ = _
  rw [stands_ev]
  unfold fnv
  rw [if_pos (show [D.obj l, D.lst (prs a)].length = 2 from rfl)]
  show (match sSeq _ restS [some (.obj l), some (.lst (prs a)), none, none, none, none] M with
    | .ret d M' => R.ok d M'
    | .nx _ M' => .ok .non M'
    | .exc x _ M' => .exc x M'
    | _ => .bad) = _
  unfold sSeq
  rw [ef, F.thn_nx, e3]
/-! ### the law -/
theorem feed_eq (ns : List Int) (M : Mem) : ∃ d s, fe__law_feed [.scr ns, .int 0] M = .ok (.lst [.int d, .int s]) M := by
  cases ns with
  | nil => exact ⟨_, _, by simp [fe__law_feed, ev__law_feed, dAbs, dGe, dPow, fnv, sSeq, sIf, sSet, sRet, sNx, sDo, tOf, tAnd, tOr, tNot, eAnd, eNot, eBin, eUn, eVar, eC, eCall, eMeth, eFld, aCons, aNil, eTup, eLst, sget, R.ofO, drf, dB, dIx, dGt, dLt, dMod, dDiv, dMul, dAdd, dSub, dLen, atI0, atI1, ixN0, ixN1, memD, moD, pLst, D.mo, sPutM, isiInt, isiBool, isiList, isiT, dTy]; exact ⟨rfl, rfl⟩⟩
  | cons n ns =>
    have c : (0 : Int) < (ns.length : Int) + 1 := by omega
    by_cases h : (10 : Int) ^ 18 ≤ (if n < 0 then -n else n)
    · refine ⟨(if n < 0 then -n else n) - 10 ^ 18, (n * 6364136223846793005 + 7919 * 0 + 1442695040888963407) % 2305843009213693951, ?_⟩
      have h' : (1000000000000000000 : Int) ≤ (if n < 0 then -n else n) := h
      simp [fe__law_feed, ev__law_feed, dAbs, dGe, dPow, c, h', fnv, sSeq, sIf, sSet, sRet, sNx, sDo, tOf, tAnd, tOr, tNot, eAnd, eNot, eBin, eUn, eVar, eC, eCall, eMeth, eFld, aCons, aNil, eTup, eLst, sget, R.ofO, drf, dB, dIx, dGt, dLt, dMod, dDiv, dMul, dAdd, dSub, dLen, atI0, atI1, ixN0, ixN1, memD, moD, pLst, D.mo, sPutM, isiInt, isiBool, isiList, isiT, dTy]
    · refine ⟨0, (n * 6364136223846793005 + 7919 * 0 + 1442695040888963407) % 2305843009213693951, ?_⟩
      have h' : ¬ (1000000000000000000 : Int) ≤ (if n < 0 then -n else n) := h
      simp [fe__law_feed, ev__law_feed, dAbs, dGe, dPow, c, h', fnv, sSeq, sIf, sSet, sRet, sNx, sDo, tOf, tAnd, tOr, tNot, eAnd, eNot, eBin, eUn, eVar, eC, eCall, eMeth, eFld, aCons, aNil, eTup, eLst, sget, R.ofO, drf, dB, dIx, dGt, dLt, dMod, dDiv, dMul, dAdd, dSub, dLen, atI0, atI1, ixN0, ixN1, memD, moD, pLst, D.mo, sPutM, isiInt, isiBool, isiList, isiT, dTy]
theorem init_eq (M : Mem) : eMake "Room" fe_Room_ini aNil [] M = .ok (.obj M.length) (M ++ [room []]) := by
  simp [eMake, fe_Room_ini, ev_Room_ini, sFldS, getO, room, prs, putFd, fnv, sSeq, sIf, sSet, sRet, sNx, sDo, tOf, tAnd, tOr, tNot, eAnd, eNot, eBin, eUn, eVar, eC, eCall, eMeth, eFld, aCons, aNil, eTup, eLst, sget, R.ofO, drf, dB, dIx, dGt, dLt, dMod, dDiv, dMul, dAdd, dSub, dLen, atI0, atI1, ixN0, ixN1, memD, moD, pLst, D.mo, sPutM, isiInt, isiBool, isiList, isiT, dTy]
end Wk75


set_option Elab.async false
set_option linter.all false
set_option maxRecDepth 100000
set_option maxHeartbeats 4000000
/-! S75: the law's loop. -/
namespace Wk75
open PySem La
noncomputable def brA : Sv := (sSeq (sSet 9 (eBin dAdd (eC (.int 1)) (eCall fe__law_take (aCons (eVar 1) (aCons (eCall fe__law_pick (aCons (eVar 1) (aCons (eLst (aCons (eC (.int 1)) (aCons (eC (.int 4)) (aCons (eC (.int 9)) (aCons (eC (.int 300)) (aCons (eC (.int 2000)) aNil)))))) aNil))) aNil))))) (sSeq (sSet 10 (eCall fe__law_place (aCons (eVar 7) (aCons (eVar 9) aNil)))) (sSeq (sSet 11 (eMeth "Room" "take" fe_Room_take (eBin dIx (eVar 2) (eVar 6)) (aCons (eVar 9) aNil))) (sSeq (sIf (tOr (tNot (tOf (eCall fe__law_whole (aCons (eVar 11) aNil)))) (tOf (eBin dNeo (eVar 11) (eVar 10)))) (sRet (eC (.bl false))) sNx) (sPutS pLst 4 (eVar 6) (eUn dSortP (eBin dAdd (eVar 7) (eLst (aCons (eTup (aCons (eVar 10) (aCons (eVar 9) aNil))) aNil)))))))))
noncomputable def brB : Sv := (sSeq (sSet 12 (eCall fe__law_pick (aCons (eVar 1) (aCons (eBin dAdd (eVar 7) (eLst (aCons (eBin dIx (eVar 7) (eC (.int 0))) (aCons (eBin dIx (eVar 7) (eUn dNeg (eC (.int 1)))) aNil)))) aNil)))) (sSeq (sDo (eMeth "Room" "give_back" fe_Room_give_back (eBin dIx (eVar 2) (eVar 6)) (aCons (eBin dIx (eVar 12) (eC (.int 0))) aNil))) (sPutS pLst 4 (eVar 6) (eLc (iSeq (eVar 7)) [15] (gN 15) (tOf (eBin dNeo (eVar 15) (eVar 12))) (eVar 15)))))
noncomputable def brC : Sv := (sSeq (sSet 13 (eCall fe__law_pick (aCons (eVar 1) (aCons (eLst (aCons (eBin dSub (eC (.int 0)) (eC (.int 1))) (aCons (eCall fe__law_take (aCons (eVar 1) (aCons (eC (.int 20)) aNil))) (aCons (eCall fe__law_take (aCons (eVar 1) (aCons (eC (.int 9000)) aNil))) (aCons (eBin dPow (eC (.int 10)) (eC (.int 29))) aNil))))) aNil)))) (sSeq (sSet 14 (eLc (iSeq (eVar 7)) [12] (gN 12) tTrue (eBin dIx (eVar 12) (eC (.int 0))))) (sIf (tAnd (tOf (eBin dNi (eVar 13) (eVar 14))) (tNot (tOf (eCall fe__law_refused (aCons (eBin dIx (eVar 2) (eVar 6)) (aCons (eVar 13) aNil)))))) (sRet (eC (.bl false))) sNx)))
noncomputable def tailL : Sv := (sSeq (sIf (tAnd (tOf (eBin dGt (eCall fe__law_take (aCons (eVar 1) (aCons (eC (.int 3)) aNil))) (eC (.int 0)))) (tNot (tOf (eCall fe__law_stands (aCons (eBin dIx (eVar 2) (eVar 6)) (aCons (eBin dIx (eVar 4) (eVar 6)) aNil)))))) (sRet (eC (.bl false))) sNx) (sSeq (sSet 11 (eMeth "Room" "taken" fe_Room_taken (eBin dIx (eVar 2) (eVar 6)) aNil)) (sMutS D.isLst mApp 3 (aCons (eTup (aCons (eVar 11) (aCons (eUn dList (eVar 11)) aNil))) aNil))))
noncomputable def bodyL : Sv := sSeq (sSet 6 (eCall fe__law_take (aCons (eVar 1) (aCons (eC (.int 2)) aNil)))) (sSeq (sSet 7 (eBin dIx (eVar 4) (eVar 6))) (sSeq (sSet 8 (eCall fe__law_take (aCons (eVar 1) (aCons (eC (.int 6)) aNil)))) (sSeq (sIf (tOf (eBin dLt (eVar 8) (eC (.int 3)))) brA (sIf (tAnd (tOf (eBin dLt (eVar 8) (eC (.int 5)))) (tOf (eBin dNeo (eVar 7) (eLst aNil)))) brB brC)) tailL)))
noncomputable def restL : Sv := (sSeq (sIf (tOf (eBin dNeo (eLc (iSeq (eVar 3)) [12] (gN 12) (tOf (eBin dNeo (eBin dIx (eVar 12) (eC (.int 0))) (eBin dIx (eVar 12) (eC (.int 1))))) (eVar 12)) (eLst aNil))) (sRet (eC (.bl false))) sNx) (sRet (eAnd (eCall fe__law_stands (aCons (eBin dIx (eVar 2) (eC (.int 0))) (aCons (eBin dIx (eVar 4) (eC (.int 0))) aNil))) (eCall fe__law_stands (aCons (eBin dIx (eVar 2) (eC (.int 1))) (aCons (eBin dIx (eVar 4) (eC (.int 1))) aNil))))))
theorem law_ev : ev_law = sSeq (sSet 1 (eMem (eCall fe__law_feed (aCons (eVar 0) (aCons (eC (.int 0)) aNil))))) (sSeq (sSet 2 (eLst (aCons (eMake "Room" fe_Room_ini aNil) (aCons (eMake "Room" fe_Room_ini aNil) aNil)))) (sSeq (sSet 3 (eLst aNil)) (sSeq (sSet 4 (eLst (aCons (eLst aNil) (aCons (eLst aNil) aNil)))) (sSeq (sFor (iR1 (aCons (eCall fe__law_take (aCons (eVar 1) (aCons (eC (.int 41)) aNil))) aNil)) (gN 5) bodyL) restL)))) := rfl

/-- the law's names -/
def sdl (x0 : Option D) (kept : List D) (a b : List (Int × Int)) (x5 x6 x7 x8 x9 x10 x11 x12 x13 x14 x15 : Option D) : Sd :=
  [x0, some (.obj 0), some (.lst [.obj 1, .obj 2]), some (.lst kept), some (.lst [.lst (prs a), .lst (prs b)]), x5, x6, x7, x8, x9, x10, x11, x12, x13, x14, x15]
variable {x0 x5 x6 x7 x8 x9 x10 x11 x12 x13 x14 x15 : Option D} {kept : List D} {a b : List (Int × Int)} {d s : Int} {n : Nat}
theorem pick5 {x : D} (h : x ∈ [D.int 1, .int 4, .int 9, .int 300, .int 2000]) : ∃ m, x = .int m ∧ 0 < m ∧ m < 2 ^ 64 := by
  simp only [List.mem_cons, List.not_mem_nil, or_false] at h
  rcases h with rfl | rfl | rfl | rfl | rfl <;> exact ⟨_, rfl, by omega, by omega⟩
/-- what the branches leave -/
def Left (n : Nat) (kept : List D) (x0 x5 x6 x7 x8 : Option D) (f : La.F) : Prop := ∃ d s a b y9 y10 y11 y12 y13 y14 y15, f = .nx (sdl x0 kept a b x5 x6 x7 x8 y9 y10 y11 y12 y13 y14 y15) [feed d s, room a, room b] ∧ Good 0 a ∧ Good 0 b ∧ a.length ≤ n ∧ b.length ≤ n
theorem room1 (d s : Int) (a b : List (Int × Int)) : ([feed d s, room a, room b] : Mem)[1]? = some (room a) := rfl
theorem room2 (d s : Int) (a b : List (Int × Int)) : ([feed d s, room a, room b] : Mem)[2]? = some (room b) := rfl

theorem ends_of : ∀ (A : List (Int × Int)), A ≠ [] → ∃ p q, p ∈ A ∧ q ∈ A ∧ L2.atI (prs A) 0 = some (pr p) ∧ L2.atI (prs A) (-1) = some (pr q) := fun A h => by
  rcases List.eq_nil_or_concat A with rfl | ⟨t, q, rfl⟩
  · exact absurd rfl h
  · rw [List.concat_eq_append]
    have e : prs (t ++ [q]) = prs t ++ [pr q] := by simp [prs]
    cases t with
    | nil => exact ⟨q, q, by simp, by simp, atI0 _ _, by rw [e, atI_last]⟩
    | cons p t => exact ⟨p, q, by simp, by simp, atI0 _ _, by rw [e, atI_last]⟩
theorem Good.inj : ∀ {A : List (Int × Int)} {lo : Int}, Good lo A → ∀ {p q : Int × Int}, p ∈ A → q ∈ A → p.1 = q.1 → p = q
  | [], _, _, _, _, h, _, _ => nomatch h
  | r :: A, lo, g, p, q, hp, hq, e => by
    rcases List.mem_cons.mp hp with h1 | h1
    · rcases List.mem_cons.mp hq with h2 | h2
      · rw [h1, h2]
      · have := Good.all_lt g.2.2 q h2
        have := g.2.1
        rw [h1] at e
        omega
    · rcases List.mem_cons.mp hq with h2 | h2
      · have := Good.all_lt g.2.2 p h1
        have := g.2.1
        rw [h2] at e
        omega
      · exact Good.inj g.2.2 h1 h2 e
theorem filt_eq {A : List (Int × Int)} {lo : Int} (g : Good lo A) {o : Int × Int} (ho : o ∈ A) : (A.filter fun q => decide (q ≠ o)) = without o.1 A := by
  unfold without
  refine List.filter_congr fun q hq => ?_
  by_cases z : q = o
  · simp [z]
  · have : q.1 ≠ o.1 := fun y => z (g.inj hq ho y)
    simp [z, this]
theorem lcB (M : Mem) (o : Int × Int) (y0 y1 y2 y3 y4 y5 y6 y7 y8 y9 y10 y11 y13 y14 : Option D) : ∀ A : List (Int × Int), lcD (gN 15) (tOf (eBin dNeo (eVar 15) (eVar 12))) (eVar 15) [y0, y1, y2, y3, y4, y5, y6, y7, y8, y9, y10, y11, some (pr o), y13, y14, none] (prs A) M = .ok (prs (A.filter fun q => decide (q ≠ o))) M
  | [] => rfl
  | q :: A => by
    have ih := lcB M o y0 y1 y2 y3 y4 y5 y6 y7 y8 y9 y10 y11 y13 y14 A
    have e0 : ∀ x, drf M (pr x) = pr x := fun x => rfl
    have e1 := ne_pr q o
    rw [List.filter_cons]
    show lcD _ _ _ _ (pr q :: prs A) M = _
    rw [lcD]
    by_cases z : q = o
    · rw [if_neg (by simp [z])]
      subst z
      simp only [ne_eq, not_true_eq_false, decide_false] at e1
      simp [gN, tOf, eBin, eVar, sget, e0, e1, R.ofO, dB]
      simpa using ih
    · rw [if_pos (by simp [z])]
      simp only [ne_eq, z, not_false_eq_true, decide_true] at e1
      simp [gN, tOf, eBin, eVar, sget, e0, e1, R.ofO, dB]
      simp only [ne_eq, decide_not, tOf] at ih
      rw [ih]
      rfl
theorem lcC (M : Mem) (y0 y1 y2 y3 y4 y5 y6 y7 y8 y9 y10 y11 y13 y14 y15 : Option D) : ∀ A : List (Int × Int), lcD (gN 12) tTrue (eBin dIx (eVar 12) (eC (.int 0))) [y0, y1, y2, y3, y4, y5, y6, y7, y8, y9, y10, y11, none, y13, y14, y15] (prs A) M = .ok (A.map fun q => D.int q.1) M
  | [] => rfl
  | q :: A => by
    have ih := lcC M y0 y1 y2 y3 y4 y5 y6 y7 y8 y9 y10 y11 y13 y14 y15 A
    simp [prs, pr, lcD, gN, tTrue, fnv, sSeq, sIf, sSet, sRet, sNx, sDo, tOf, tAnd, tOr, tNot, eAnd, eNot, eBin, eUn, eVar, eC, eCall, eMeth, eFld, aCons, aNil, eTup, eLst, sget, R.ofO, drf, dB, dIx, dGt, dLt, dMod, dDiv, dMul, dAdd, dSub, dLen, atI0, atI1, ixN0, ixN1, memD, moD, pLst, D.mo, sPutM, isiInt, isiBool, isiList, isiT, dTy] at ih ⊢
    rw [ih]
    rfl
theorem ni_int (f : Int) (A : List (Int × Int)) : dNi (.int f) (.lst (A.map fun q => D.int q.1)) = some (.bl (decide (f ∉ A.map (·.1)))) := by
  have h1 : D.pls (A.map fun q => D.int q.1) = true := by
    induction A with
    | nil => rfl
    | cons q A ih => rw [List.map_cons, D.pls, ih]; rfl
  have h2 : ((A.map fun q => D.int q.1).any fun e => dEq e (.int f)) = decide (f ∈ A.map (·.1)) := by
    clear h1
    induction A with
    | nil => rfl
    | cons q A ih =>
      rw [List.map_cons, List.any_cons, ih]
      have e : dEq (.int q.1) (.int f) = decide (f = q.1) := by
        by_cases z : f = q.1
        · simp [z, dEq, D.py, PyData.eqv]
        · have z' : ¬ q.1 = f := fun y => z y.symm
          simp [z, z', dEq, D.py, PyData.eqv]
      rw [e, List.map_cons, ← Bool.decide_or]
      exact decide_eq_decide.mpr List.mem_cons.symm
  simp [dNi, dMem, D.pl, D.rk, h1, h2]
theorem pick4 {x : D} {v w : Int} (h : x ∈ [D.int (-1), .int v, .int w, .int 100000000000000000000000000000]) : ∃ m, x = .int m := by
  simp only [List.mem_cons, List.not_mem_nil, or_false] at h
  rcases h with rfl | rfl | rfl | rfl <;> exact ⟨_, rfl⟩

theorem brA0 (ga : Good 0 a) (gb : Good 0 b) (ha : a.length ≤ n) (hb : b.length ≤ n) (hn : n ≤ 100) : Left (n + 1) kept x0 x5 (some (.int 0)) (some (.lst (prs a))) x8 (brA (sdl x0 kept a b x5 (some (.int 0)) (some (.lst (prs a))) x8 x9 x10 x11 x12 x13 x14 x15) [feed d s, room a, room b]) := by
  obtain ⟨x, d1, s1, hx, e1⟩ := pick_eq d s [D.int 1, .int 4, .int 9, .int 300, .int 2000] [room a, room b] (by simp) (by simp)
  obtain ⟨m, rfl, m1, m2⟩ := pick5 hx
  obtain ⟨v, d2, s2, v0, v1, e2⟩ := take_eq d1 s1 m [room a, room b] m1 m2
  have hlen : 1 ≤ 1 + v := by omega
  have e3 := rtake_eq 1 a (1 + v) [feed d2 s2, room a, room b] rfl (by omega)
  have e4 := place_scan (1 + v) hlen a 0 ga
  have e5 := sort_eq a (1 + v) hlen ga
  have hz : (prs a).length + 1 ≤ sizeLine := by have : sizeLine = 16777216 := PySem.sizeLine_eq; simp [prs]; omega
  have hne : ¬ (("take" : Str) = "stretches") := by decide
  rw [e4] at e5
  refine ⟨d2, s2, putR (1 + v) 0 a, b, some (.int (1 + v)), some (.int (scan (1 + v) 0 a).2), some (.int (scan (1 + v) 0 a).2), x12, x13, x14, x15, ?_, putR_good _ hlen a 0 ga, gb, by first | omega | (rw [putR_len]; omega), by first | omega | (rw [putR_len]; omega)⟩
  have hg := getO_of (c := "Room") (M := [feed d2 s2, room a, room b]) (l := 1) (fs := [("stretches", .lst (prs a))]) rfl
  have e6 : dSortP (.lst (prs a ++ [D.tup [.int (scan (1 + v) 0 a).2, .int (1 + v)]])) = some (.lst (prs (putR (1 + v) 0 a))) := e5
  have e7 : ([feed d2 s2, room a, room b] : Mem).set 1 (room (putR (1 + v) 0 a)) = [feed d2 s2, room (putR (1 + v) 0 a), room (b)] := rfl
  rw [e7] at e3
  simp [brA, sdl, e1, e2, e3, place_eq, e4, whole_eq, neInt, hg, lookF, hne, hz, sPutS, e6, fnv, sSeq, sIf, sSet, sRet, sNx, sDo, tOf, tAnd, tOr, tNot, eAnd, eNot, eBin, eUn, eVar, eC, eCall, eMeth, eFld, aCons, aNil, eTup, eLst, sget, R.ofO, drf, dB, dIx, dGt, dLt, dMod, dDiv, dMul, dAdd, dSub, dLen, atI0, atI1, ixN0, ixN1, memD, moD, pLst, D.mo, sPutM, isiInt, isiBool, isiList, isiT, dTy]
theorem brB0 (ga : Good 0 a) (gb : Good 0 b) (ha : a.length ≤ n) (hb : b.length ≤ n) (hn : n ≤ 100) (h0 : a ≠ []) : Left (n + 1) kept x0 x5 (some (.int 0)) (some (.lst (prs a))) x8 (brB (sdl x0 kept a b x5 (some (.int 0)) (some (.lst (prs a))) x8 x9 x10 x11 x12 x13 x14 x15) [feed d s, room a, room b]) := by
  obtain ⟨p, q, hp, hq, i0, i1⟩ := ends_of a h0
  obtain ⟨x, d1, s1, hx, e1⟩ := pick_eq d s (prs a ++ [pr p, pr q]) [room a, room b] (by simp) (by simp [prs]; omega)
  have ho : ∃ o, o ∈ a ∧ x = pr o := by
    rcases List.mem_append.mp hx with hx | hx
    · obtain ⟨o, h1, h2⟩ := List.mem_map.mp hx
      exact ⟨o, h1, h2.symm⟩
    · simp only [List.mem_cons, List.not_mem_nil, or_false] at hx
      rcases hx with rfl | rfl
      · exact ⟨p, hp, rfl⟩
      · exact ⟨q, hq, rfl⟩
  obtain ⟨o, oA, rfl⟩ := ho
  have e2 := gb_eq 1 a o.1 [feed d1 s1, room a, room b] rfl (by omega) (List.mem_map.mpr ⟨o, oA, rfl⟩)
  have hz : (prs a).length + 2 ≤ sizeLine := by have : sizeLine = 16777216 := PySem.sizeLine_eq; simp [prs]; omega
  have hl : (prs a).length ≤ 1000000 := by simp [prs]; omega
  have hw : (without o.1 a).length ≤ a.length := List.length_filter_le _ _
  have hne : ¬ (("give_back" : Str) = "stretches") := by decide
  refine ⟨d1, s1, without o.1 a, b, x9, x10, x11, some (pr o), x13, x14, x15, ?_, filt_good _ a 0 ga, gb, by omega, by omega⟩
  have hg := getO_of (c := "Room") (M := [feed d1 s1, room a, room b]) (l := 1) (fs := [("stretches", .lst (prs a))]) rfl
  have e7 : ([feed d1 s1, room a, room b] : Mem).set 1 (room (without o.1 a)) = [feed d1 s1, room (without o.1 a), room (b)] := rfl
  have e8 := fun M y0 y1 y2 y3 y4 y5 y6 y7 y8 y9 y10 y11 y13 y14 => lcB M o y0 y1 y2 y3 y4 y5 y6 y7 y8 y9 y10 y11 y13 y14 a
  rw [filt_eq ga oA] at e8
  have e9 : L2.atI [D.int o.1, D.int o.2] 0 = some (.int o.1) := atI0 _ _
  have e10 : dIx (pr o) (.int 0) = some (.int o.1) := e9
  have e11 : ∀ M, drf M (pr o) = pr o := fun _ => rfl
  have e12 : dIx (.lst (prs a)) (.int 0) = some (pr p) := i0
  have e13 : dIx (.lst (prs a)) (.int (-1)) = some (pr q) := i1
  have e14 : dIx (.lst [D.obj 1, .obj 2]) (.int 0) = some (.obj 1) := rfl
  rw [e7] at e2
  simp [brB, sdl, e1, e2, e10, e11, e12, e13, e14, e8, hg, lookF, hne, hz, hl, sPutS, eLc, iSeq, dSeq, wipeD, dNeg, fnv, sSeq, sIf, sSet, sRet, sNx, sDo, tOf, tAnd, tOr, tNot, eAnd, eNot, eBin, eUn, eVar, eC, eCall, eMeth, eFld, aCons, aNil, eTup, eLst, sget, R.ofO, dB, dGt, dLt, dMod, dDiv, dMul, dAdd, dSub, dLen, atI0, atI1, ixN0, ixN1, memD, moD, pLst, D.mo, sPutM, isiInt, isiBool, isiList, isiT, dTy]
theorem brC0 (ga : Good 0 a) (gb : Good 0 b) (ha : a.length ≤ n) (hb : b.length ≤ n) (hn : n ≤ 100) : Left (n + 1) kept x0 x5 (some (.int 0)) (some (.lst (prs a))) x8 (brC (sdl x0 kept a b x5 (some (.int 0)) (some (.lst (prs a))) x8 x9 x10 x11 x12 x13 x14 x15) [feed d s, room a, room b]) := by
  obtain ⟨v, d1, s1, _, _, e1⟩ := take_eq d s 20 [room a, room b] (by omega) (by omega)
  obtain ⟨w, d2, s2, _, _, e2⟩ := take_eq d1 s1 9000 [room a, room b] (by omega) (by omega)
  obtain ⟨x, d3, s3, hx, e3⟩ := pick_eq d2 s2 [D.int (-1), .int v, .int w, .int 100000000000000000000000000000] [room a, room b] (by simp) (by simp)
  obtain ⟨f, rfl⟩ := pick4 hx
  have hl : (prs a).length ≤ 1000000 := by simp [prs]; omega
  have e8 := fun M y0 y1 y2 y3 y4 y5 y6 y7 y8 y9 y10 y11 y13 y14 y15 => lcC M y0 y1 y2 y3 y4 y5 y6 y7 y8 y9 y10 y11 y13 y14 y15 a
  have e9 := ni_int f a
  refine ⟨d3, s3, a, b, x9, x10, x11, x12, some (.int f), some (.lst (a.map fun q => D.int q.1)), x15, ?_, ga, gb, by omega, by omega⟩
  by_cases hf : f ∈ a.map (·.1)
  · have hf' : decide (f ∉ a.map (·.1)) = false := decide_eq_false (fun z => z hf)
    rw [hf'] at e9
    simp [brC, sdl, e1, e2, e3, e8, e9, hl, eLc, iSeq, dSeq, wipeD, dPow, fnv, sSeq, sIf, sSet, sRet, sNx, sDo, tOf, tAnd, tOr, tNot, eAnd, eNot, eBin, eUn, eVar, eC, eCall, eMeth, eFld, aCons, aNil, eTup, eLst, sget, R.ofO, drf, dB, dIx, dGt, dLt, dMod, dDiv, dMul, dAdd, dSub, dLen, atI0, atI1, ixN0, ixN1, memD, moD, pLst, D.mo, sPutM, isiInt, isiBool, isiList, isiT, dTy]
  · have hf' : decide (f ∉ a.map (·.1)) = true := decide_eq_true hf
    rw [hf'] at e9
    have e10 := refused_eq 1 a f [feed d3 s3, room a, room b] rfl (by omega) hf
    simp [brC, sdl, e1, e2, e3, e8, e9, e10, hl, eLc, iSeq, dSeq, wipeD, dPow, fnv, sSeq, sIf, sSet, sRet, sNx, sDo, tOf, tAnd, tOr, tNot, eAnd, eNot, eBin, eUn, eVar, eC, eCall, eMeth, eFld, aCons, aNil, eTup, eLst, sget, R.ofO, drf, dB, dIx, dGt, dLt, dMod, dDiv, dMul, dAdd, dSub, dLen, atI0, atI1, ixN0, ixN1, memD, moD, pLst, D.mo, sPutM, isiInt, isiBool, isiList, isiT, dTy]
theorem tail0 (ga : Good 0 a) (gb : Good 0 b) (ha : a.length ≤ 1000) (hb : b.length ≤ 1000) (hk : kept.length ≤ 1000) : ∃ d' s' y11, tailL (sdl x0 kept a b x5 (some (.int 0)) x7 x8 x9 x10 x11 x12 x13 x14 x15) [feed d s, room a, room b] = .nx (sdl x0 (kept ++ [.tup [.lst (prs a), .lst (prs a)]]) a b x5 (some (.int 0)) x7 x8 x9 x10 y11 x12 x13 x14 x15) [feed d' s', room a, room b] := by
  obtain ⟨v, d1, s1, _, _, e1⟩ := take_eq d s 3 [room a, room b] (by omega) (by omega)
  have e2 := stands_eq 1 a [feed d1 s1, room a, room b] rfl (by omega) ga
  have e3 := taken_eq 1 a [feed d1 s1, room a, room b] rfl
  have hg := getO_of (c := "Room") (M := [feed d1 s1, room a, room b]) (l := 1) (fs := [("stretches", .lst (prs a))]) rfl
  have hne : ¬ (("taken" : Str) = "stretches") := by decide
  have hz : kept.length ≤ 1000000 := by omega
  refine ⟨d1, s1, some (.lst (prs a)), ?_⟩
  by_cases c : 0 < v
  · simp [tailL, sdl, e1, e2, e3, c, hg, lookF, hne, hz, dList, sMutS, D.isLst, mApp, fnv, sSeq, sIf, sSet, sRet, sNx, sDo, tOf, tAnd, tOr, tNot, eAnd, eNot, eBin, eUn, eVar, eC, eCall, eMeth, eFld, aCons, aNil, eTup, eLst, sget, R.ofO, drf, dB, dIx, dGt, dLt, dMod, dDiv, dMul, dAdd, dSub, dLen, atI0, atI1, ixN0, ixN1, memD, moD, pLst, D.mo, sPutM, isiInt, isiBool, isiList, isiT, dTy]
  · simp [tailL, sdl, e1, e2, e3, c, hg, lookF, hne, hz, dList, sMutS, D.isLst, mApp, fnv, sSeq, sIf, sSet, sRet, sNx, sDo, tOf, tAnd, tOr, tNot, eAnd, eNot, eBin, eUn, eVar, eC, eCall, eMeth, eFld, aCons, aNil, eTup, eLst, sget, R.ofO, drf, dB, dIx, dGt, dLt, dMod, dDiv, dMul, dAdd, dSub, dLen, atI0, atI1, ixN0, ixN1, memD, moD, pLst, D.mo, sPutM, isiInt, isiBool, isiList, isiT, dTy]

theorem brA1 (ga : Good 0 a) (gb : Good 0 b) (ha : a.length ≤ n) (hb : b.length ≤ n) (hn : n ≤ 100) : Left (n + 1) kept x0 x5 (some (.int 1)) (some (.lst (prs b))) x8 (brA (sdl x0 kept a b x5 (some (.int 1)) (some (.lst (prs b))) x8 x9 x10 x11 x12 x13 x14 x15) [feed d s, room a, room b]) := by
  obtain ⟨x, d1, s1, hx, e1⟩ := pick_eq d s [D.int 1, .int 4, .int 9, .int 300, .int 2000] [room a, room b] (by simp) (by simp)
  obtain ⟨m, rfl, m1, m2⟩ := pick5 hx
  obtain ⟨v, d2, s2, v0, v1, e2⟩ := take_eq d1 s1 m [room a, room b] m1 m2
  have hlen : 1 ≤ 1 + v := by omega
  have e3 := rtake_eq 2 b (1 + v) [feed d2 s2, room a, room b] rfl (by omega)
  have e4 := place_scan (1 + v) hlen b 0 gb
  have e5 := sort_eq b (1 + v) hlen gb
  have hz : (prs b).length + 1 ≤ sizeLine := by have : sizeLine = 16777216 := PySem.sizeLine_eq; simp [prs]; omega
  have hne : ¬ (("take" : Str) = "stretches") := by decide
  rw [e4] at e5
  refine ⟨d2, s2, a, putR (1 + v) 0 b, some (.int (1 + v)), some (.int (scan (1 + v) 0 b).2), some (.int (scan (1 + v) 0 b).2), x12, x13, x14, x15, ?_, ga, putR_good _ hlen b 0 gb, by first | omega | (rw [putR_len]; omega), by first | omega | (rw [putR_len]; omega)⟩
  have hg := getO_of (c := "Room") (M := [feed d2 s2, room a, room b]) (l := 2) (fs := [("stretches", .lst (prs b))]) rfl
  have e6 : dSortP (.lst (prs b ++ [D.tup [.int (scan (1 + v) 0 b).2, .int (1 + v)]])) = some (.lst (prs (putR (1 + v) 0 b))) := e5
  have e7 : ([feed d2 s2, room a, room b] : Mem).set 2 (room (putR (1 + v) 0 b)) = [feed d2 s2, room (a), room (putR (1 + v) 0 b)] := rfl
  rw [e7] at e3
  simp [brA, sdl, e1, e2, e3, place_eq, e4, whole_eq, neInt, hg, lookF, hne, hz, sPutS, e6, fnv, sSeq, sIf, sSet, sRet, sNx, sDo, tOf, tAnd, tOr, tNot, eAnd, eNot, eBin, eUn, eVar, eC, eCall, eMeth, eFld, aCons, aNil, eTup, eLst, sget, R.ofO, drf, dB, dIx, dGt, dLt, dMod, dDiv, dMul, dAdd, dSub, dLen, atI0, atI1, ixN0, ixN1, memD, moD, pLst, D.mo, sPutM, isiInt, isiBool, isiList, isiT, dTy]
theorem brB1 (ga : Good 0 a) (gb : Good 0 b) (ha : a.length ≤ n) (hb : b.length ≤ n) (hn : n ≤ 100) (h0 : b ≠ []) : Left (n + 1) kept x0 x5 (some (.int 1)) (some (.lst (prs b))) x8 (brB (sdl x0 kept a b x5 (some (.int 1)) (some (.lst (prs b))) x8 x9 x10 x11 x12 x13 x14 x15) [feed d s, room a, room b]) := by
  obtain ⟨p, q, hp, hq, i0, i1⟩ := ends_of b h0
  obtain ⟨x, d1, s1, hx, e1⟩ := pick_eq d s (prs b ++ [pr p, pr q]) [room a, room b] (by simp) (by simp [prs]; omega)
  have ho : ∃ o, o ∈ b ∧ x = pr o := by
    rcases List.mem_append.mp hx with hx | hx
    · obtain ⟨o, h1, h2⟩ := List.mem_map.mp hx
      exact ⟨o, h1, h2.symm⟩
    · simp only [List.mem_cons, List.not_mem_nil, or_false] at hx
      rcases hx with rfl | rfl
      · exact ⟨p, hp, rfl⟩
      · exact ⟨q, hq, rfl⟩
  obtain ⟨o, oA, rfl⟩ := ho
  have e2 := gb_eq 2 b o.1 [feed d1 s1, room a, room b] rfl (by omega) (List.mem_map.mpr ⟨o, oA, rfl⟩)
  have hz : (prs b).length + 2 ≤ sizeLine := by have : sizeLine = 16777216 := PySem.sizeLine_eq; simp [prs]; omega
  have hl : (prs b).length ≤ 1000000 := by simp [prs]; omega
  have hw : (without o.1 b).length ≤ b.length := List.length_filter_le _ _
  have hne : ¬ (("give_back" : Str) = "stretches") := by decide
  refine ⟨d1, s1, a, without o.1 b, x9, x10, x11, some (pr o), x13, x14, x15, ?_, ga, filt_good _ b 0 gb, by omega, by omega⟩
  have hg := getO_of (c := "Room") (M := [feed d1 s1, room a, room b]) (l := 2) (fs := [("stretches", .lst (prs b))]) rfl
  have e7 : ([feed d1 s1, room a, room b] : Mem).set 2 (room (without o.1 b)) = [feed d1 s1, room (a), room (without o.1 b)] := rfl
  have e8 := fun M y0 y1 y2 y3 y4 y5 y6 y7 y8 y9 y10 y11 y13 y14 => lcB M o y0 y1 y2 y3 y4 y5 y6 y7 y8 y9 y10 y11 y13 y14 b
  rw [filt_eq gb oA] at e8
  have e9 : L2.atI [D.int o.1, D.int o.2] 0 = some (.int o.1) := atI0 _ _
  have e10 : dIx (pr o) (.int 0) = some (.int o.1) := e9
  have e11 : ∀ M, drf M (pr o) = pr o := fun _ => rfl
  have e12 : dIx (.lst (prs b)) (.int 0) = some (pr p) := i0
  have e13 : dIx (.lst (prs b)) (.int (-1)) = some (pr q) := i1
  have e14 : dIx (.lst [D.obj 1, .obj 2]) (.int 1) = some (.obj 2) := rfl
  rw [e7] at e2
  simp [brB, sdl, e1, e2, e10, e11, e12, e13, e14, e8, hg, lookF, hne, hz, hl, sPutS, eLc, iSeq, dSeq, wipeD, dNeg, fnv, sSeq, sIf, sSet, sRet, sNx, sDo, tOf, tAnd, tOr, tNot, eAnd, eNot, eBin, eUn, eVar, eC, eCall, eMeth, eFld, aCons, aNil, eTup, eLst, sget, R.ofO, dB, dGt, dLt, dMod, dDiv, dMul, dAdd, dSub, dLen, atI0, atI1, ixN0, ixN1, memD, moD, pLst, D.mo, sPutM, isiInt, isiBool, isiList, isiT, dTy]
theorem brC1 (ga : Good 0 a) (gb : Good 0 b) (ha : a.length ≤ n) (hb : b.length ≤ n) (hn : n ≤ 100) : Left (n + 1) kept x0 x5 (some (.int 1)) (some (.lst (prs b))) x8 (brC (sdl x0 kept a b x5 (some (.int 1)) (some (.lst (prs b))) x8 x9 x10 x11 x12 x13 x14 x15) [feed d s, room a, room b]) := by
  obtain ⟨v, d1, s1, _, _, e1⟩ := take_eq d s 20 [room a, room b] (by omega) (by omega)
  obtain ⟨w, d2, s2, _, _, e2⟩ := take_eq d1 s1 9000 [room a, room b] (by omega) (by omega)
  obtain ⟨x, d3, s3, hx, e3⟩ := pick_eq d2 s2 [D.int (-1), .int v, .int w, .int 100000000000000000000000000000] [room a, room b] (by simp) (by simp)
  obtain ⟨f, rfl⟩ := pick4 hx
  have hl : (prs b).length ≤ 1000000 := by simp [prs]; omega
  have e8 := fun M y0 y1 y2 y3 y4 y5 y6 y7 y8 y9 y10 y11 y13 y14 y15 => lcC M y0 y1 y2 y3 y4 y5 y6 y7 y8 y9 y10 y11 y13 y14 y15 b
  have e9 := ni_int f b
  refine ⟨d3, s3, a, b, x9, x10, x11, x12, some (.int f), some (.lst (b.map fun q => D.int q.1)), x15, ?_, ga, gb, by omega, by omega⟩
  by_cases hf : f ∈ b.map (·.1)
  · have hf' : decide (f ∉ b.map (·.1)) = false := decide_eq_false (fun z => z hf)
    rw [hf'] at e9
    simp [brC, sdl, e1, e2, e3, e8, e9, hl, eLc, iSeq, dSeq, wipeD, dPow, fnv, sSeq, sIf, sSet, sRet, sNx, sDo, tOf, tAnd, tOr, tNot, eAnd, eNot, eBin, eUn, eVar, eC, eCall, eMeth, eFld, aCons, aNil, eTup, eLst, sget, R.ofO, drf, dB, dIx, dGt, dLt, dMod, dDiv, dMul, dAdd, dSub, dLen, atI0, atI1, ixN0, ixN1, memD, moD, pLst, D.mo, sPutM, isiInt, isiBool, isiList, isiT, dTy]
  · have hf' : decide (f ∉ b.map (·.1)) = true := decide_eq_true hf
    rw [hf'] at e9
    have e10 := refused_eq 2 b f [feed d3 s3, room a, room b] rfl (by omega) hf
    simp [brC, sdl, e1, e2, e3, e8, e9, e10, hl, eLc, iSeq, dSeq, wipeD, dPow, fnv, sSeq, sIf, sSet, sRet, sNx, sDo, tOf, tAnd, tOr, tNot, eAnd, eNot, eBin, eUn, eVar, eC, eCall, eMeth, eFld, aCons, aNil, eTup, eLst, sget, R.ofO, drf, dB, dIx, dGt, dLt, dMod, dDiv, dMul, dAdd, dSub, dLen, atI0, atI1, ixN0, ixN1, memD, moD, pLst, D.mo, sPutM, isiInt, isiBool, isiList, isiT, dTy]
theorem tail1 (ga : Good 0 a) (gb : Good 0 b) (ha : a.length ≤ 1000) (hb : b.length ≤ 1000) (hk : kept.length ≤ 1000) : ∃ d' s' y11, tailL (sdl x0 kept a b x5 (some (.int 1)) x7 x8 x9 x10 x11 x12 x13 x14 x15) [feed d s, room a, room b] = .nx (sdl x0 (kept ++ [.tup [.lst (prs b), .lst (prs b)]]) a b x5 (some (.int 1)) x7 x8 x9 x10 y11 x12 x13 x14 x15) [feed d' s', room a, room b] := by
  obtain ⟨v, d1, s1, _, _, e1⟩ := take_eq d s 3 [room a, room b] (by omega) (by omega)
  have e2 := stands_eq 2 b [feed d1 s1, room a, room b] rfl (by omega) gb
  have e3 := taken_eq 2 b [feed d1 s1, room a, room b] rfl
  have hg := getO_of (c := "Room") (M := [feed d1 s1, room a, room b]) (l := 2) (fs := [("stretches", .lst (prs b))]) rfl
  have hne : ¬ (("taken" : Str) = "stretches") := by decide
  have hz : kept.length ≤ 1000000 := by omega
  refine ⟨d1, s1, some (.lst (prs b)), ?_⟩
  by_cases c : 0 < v
  · simp [tailL, sdl, e1, e2, e3, c, hg, lookF, hne, hz, dList, sMutS, D.isLst, mApp, fnv, sSeq, sIf, sSet, sRet, sNx, sDo, tOf, tAnd, tOr, tNot, eAnd, eNot, eBin, eUn, eVar, eC, eCall, eMeth, eFld, aCons, aNil, eTup, eLst, sget, R.ofO, drf, dB, dIx, dGt, dLt, dMod, dDiv, dMul, dAdd, dSub, dLen, atI0, atI1, ixN0, ixN1, memD, moD, pLst, D.mo, sPutM, isiInt, isiBool, isiList, isiT, dTy]
  · simp [tailL, sdl, e1, e2, e3, c, hg, lookF, hne, hz, dList, sMutS, D.isLst, mApp, fnv, sSeq, sIf, sSet, sRet, sNx, sDo, tOf, tAnd, tOr, tNot, eAnd, eNot, eBin, eUn, eVar, eC, eCall, eMeth, eFld, aCons, aNil, eTup, eLst, sget, R.ofO, drf, dB, dIx, dGt, dLt, dMod, dDiv, dMul, dAdd, dSub, dLen, atI0, atI1, ixN0, ixN1, memD, moD, pLst, D.mo, sPutM, isiInt, isiBool, isiList, isiT, dTy]

def KOk (kept : List D) : Prop := ∀ q ∈ kept, ∃ c, q = D.tup [.lst (prs c), .lst (prs c)]
/-- what stands between two turns -/
def IL (n : Nat) (sd : Sd) (M : Mem) : Prop := ∃ d s a b kept x0 x5 x6 x7 x8 x9 x10 x11 x12 x13 x14 x15, sd = sdl x0 kept a b x5 x6 x7 x8 x9 x10 x11 x12 x13 x14 x15 ∧ M = [feed d s, room a, room b] ∧ Good 0 a ∧ Good 0 b ∧ a.length ≤ n ∧ b.length ≤ n ∧ kept.length ≤ n ∧ KOk kept
theorem KOk.snoc {kept : List D} (h : KOk kept) (c : List (Int × Int)) : KOk (kept ++ [D.tup [.lst (prs c), .lst (prs c)]]) := fun q hq => by
  rcases List.mem_append.mp hq with hq | hq
  · exact h q hq
  · exact ⟨c, List.mem_singleton.mp hq⟩
theorem turn0 (ga : Good 0 a) (gb : Good 0 b) (ha : a.length ≤ n) (hb : b.length ≤ n) (hk : kept.length ≤ n) (ko : KOk kept) (hn : n ≤ 100) {br : Sv} {x7' x8' : Option D} (L : Left (n + 1) kept x0 x5 (some (.int 0)) x7' x8' (br (sdl x0 kept a b x5 (some (.int 0)) x7' x8' x9 x10 x11 x12 x13 x14 x15) [feed d s, room a, room b])) :
    ∃ sd' M', (br (sdl x0 kept a b x5 (some (.int 0)) x7' x8' x9 x10 x11 x12 x13 x14 x15) [feed d s, room a, room b]).thn tailL = .nx sd' M' ∧ IL (n + 1) sd' M' := by
  obtain ⟨d1, s1, a1, b1, y9, y10, y11, y12, y13, y14, y15, e, g1, g2, l1, l2⟩ := L
  obtain ⟨d2, s2, z11, t⟩ := tail0 (x0 := x0) (x5 := x5) (x7 := x7') (x8 := x8') (x9 := y9) (x10 := y10) (x11 := y11) (x12 := y12) (x13 := y13) (x14 := y14) (x15 := y15) (d := d1) (s := s1) (kept := kept) g1 g2 (by omega) (by omega) (by omega)
  rw [e, F.thn_nx, t]
  exact ⟨_, _, rfl, d2, s2, a1, b1, _, _, _, _, _, _, _, _, _, _, _, _, _, rfl, rfl, g1, g2, l1, l2, by rw [List.length_append]; simp; omega, ko.snoc _⟩
theorem turn1 (ga : Good 0 a) (gb : Good 0 b) (ha : a.length ≤ n) (hb : b.length ≤ n) (hk : kept.length ≤ n) (ko : KOk kept) (hn : n ≤ 100) {br : Sv} {x7' x8' : Option D} (L : Left (n + 1) kept x0 x5 (some (.int 1)) x7' x8' (br (sdl x0 kept a b x5 (some (.int 1)) x7' x8' x9 x10 x11 x12 x13 x14 x15) [feed d s, room a, room b])) :
    ∃ sd' M', (br (sdl x0 kept a b x5 (some (.int 1)) x7' x8' x9 x10 x11 x12 x13 x14 x15) [feed d s, room a, room b]).thn tailL = .nx sd' M' ∧ IL (n + 1) sd' M' := by
  obtain ⟨d1, s1, a1, b1, y9, y10, y11, y12, y13, y14, y15, e, g1, g2, l1, l2⟩ := L
  obtain ⟨d2, s2, z11, t⟩ := tail1 (x0 := x0) (x5 := x5) (x7 := x7') (x8 := x8') (x9 := y9) (x10 := y10) (x11 := y11) (x12 := y12) (x13 := y13) (x14 := y14) (x15 := y15) (d := d1) (s := s1) (kept := kept) g1 g2 (by omega) (by omega) (by omega)
  rw [e, F.thn_nx, t]
  exact ⟨_, _, rfl, d2, s2, a1, b1, _, _, _, _, _, _, _, _, _, _, _, _, _, rfl, rfl, g1, g2, l1, l2, by rw [List.length_append]; simp; omega, ko.snoc _⟩

theorem body0 (ga : Good 0 a) (gb : Good 0 b) (ha : a.length ≤ n) (hb : b.length ≤ n) (hk : kept.length ≤ n) (ko : KOk kept) (hn : n ≤ 100) (d0 s0 : Int) (e0 : fe__law_take [.obj 0, .int 2] [feed d0 s0, room a, room b] = .ok (.int 0) [feed d s, room a, room b]) :
    ∃ sd' M', bodyL (sdl x0 kept a b x5 x6 x7 x8 x9 x10 x11 x12 x13 x14 x15) [feed d0 s0, room a, room b] = .nx sd' M' ∧ IL (n + 1) sd' M' := by
  obtain ⟨w, d1, s1, _, _, e1⟩ := take_eq d s 6 [room a, room b] (by omega) (by omega)
  by_cases c3 : w < 3
  · have t := turn0 (br := brA) ga gb ha hb hk ko hn (x7' := some (.lst (prs a))) (x8' := some (.int w)) (brA0 (x0 := x0) (x5 := x5) (x8 := some (.int w)) (x9 := x9) (x10 := x10) (x11 := x11) (x12 := x12) (x13 := x13) (x14 := x14) (x15 := x15) (kept := kept) (d := d1) (s := s1) ga gb ha hb hn)
    obtain ⟨sd', M', h1, h2⟩ := t
    refine ⟨sd', M', ?_, h2⟩
    rw [← h1]
    simp [bodyL, sdl, e0, e1, c3, fnv, sSeq, sIf, sSet, sRet, sNx, sDo, tOf, tAnd, tOr, tNot, eAnd, eNot, eBin, eUn, eVar, eC, eCall, eMeth, eFld, aCons, aNil, eTup, eLst, sget, R.ofO, drf, dB, dIx, dGt, dLt, dMod, dDiv, dMul, dAdd, dSub, dLen, atI0, atI1, ixN0, ixN1, memD, moD, pLst, D.mo, sPutM, isiInt, isiBool, isiList, isiT, dTy]
  · by_cases c5 : w < 5 ∧ a ≠ []
    · have t := turn0 (br := brB) ga gb ha hb hk ko hn (x7' := some (.lst (prs a))) (x8' := some (.int w)) (brB0 (x0 := x0) (x5 := x5) (x8 := some (.int w)) (x9 := x9) (x10 := x10) (x11 := x11) (x12 := x12) (x13 := x13) (x14 := x14) (x15 := x15) (kept := kept) (d := d1) (s := s1) ga gb ha hb hn c5.2)
      obtain ⟨sd', M', h1, h2⟩ := t
      refine ⟨sd', M', ?_, h2⟩
      rw [← h1]
      have em : a.isEmpty = false := by cases h : a with
        | nil => exact absurd h c5.2
        | cons q t => rfl
      have e2 := ne_nil a
      rw [em] at e2
      simp [bodyL, sdl, e0, e1, c3, c5.1, e2, fnv, sSeq, sIf, sSet, sRet, sNx, sDo, tOf, tAnd, tOr, tNot, eAnd, eNot, eBin, eUn, eVar, eC, eCall, eMeth, eFld, aCons, aNil, eTup, eLst, sget, R.ofO, drf, dB, dIx, dGt, dLt, dMod, dDiv, dMul, dAdd, dSub, dLen, atI0, atI1, ixN0, ixN1, memD, moD, pLst, D.mo, sPutM, isiInt, isiBool, isiList, isiT, dTy]
    · have t := turn0 (br := brC) ga gb ha hb hk ko hn (x7' := some (.lst (prs a))) (x8' := some (.int w)) (brC0 (x0 := x0) (x5 := x5) (x8 := some (.int w)) (x9 := x9) (x10 := x10) (x11 := x11) (x12 := x12) (x13 := x13) (x14 := x14) (x15 := x15) (kept := kept) (d := d1) (s := s1) ga gb ha hb hn)
      obtain ⟨sd', M', h1, h2⟩ := t
      refine ⟨sd', M', ?_, h2⟩
      rw [← h1]
      by_cases c6 : w < 5
      · have em : a = [] := Classical.byContradiction fun z => c5 ⟨c6, z⟩
        have e2 := ne_nil a
        rw [em] at e2
        simp only [List.isEmpty_nil, Bool.not_true] at e2
        rw [em] at e0 e1 ⊢
        simp [bodyL, sdl, e0, e1, c3, c6, e2, fnv, sSeq, sIf, sSet, sRet, sNx, sDo, tOf, tAnd, tOr, tNot, eAnd, eNot, eBin, eUn, eVar, eC, eCall, eMeth, eFld, aCons, aNil, eTup, eLst, sget, R.ofO, drf, dB, dIx, dGt, dLt, dMod, dDiv, dMul, dAdd, dSub, dLen, atI0, atI1, ixN0, ixN1, memD, moD, pLst, D.mo, sPutM, isiInt, isiBool, isiList, isiT, dTy]
      · simp [bodyL, sdl, e0, e1, c3, c6, fnv, sSeq, sIf, sSet, sRet, sNx, sDo, tOf, tAnd, tOr, tNot, eAnd, eNot, eBin, eUn, eVar, eC, eCall, eMeth, eFld, aCons, aNil, eTup, eLst, sget, R.ofO, drf, dB, dIx, dGt, dLt, dMod, dDiv, dMul, dAdd, dSub, dLen, atI0, atI1, ixN0, ixN1, memD, moD, pLst, D.mo, sPutM, isiInt, isiBool, isiList, isiT, dTy]

theorem body1 (ga : Good 0 a) (gb : Good 0 b) (ha : a.length ≤ n) (hb : b.length ≤ n) (hk : kept.length ≤ n) (ko : KOk kept) (hn : n ≤ 100) (d0 s0 : Int) (e0 : fe__law_take [.obj 0, .int 2] [feed d0 s0, room a, room b] = .ok (.int 1) [feed d s, room a, room b]) :
    ∃ sd' M', bodyL (sdl x0 kept a b x5 x6 x7 x8 x9 x10 x11 x12 x13 x14 x15) [feed d0 s0, room a, room b] = .nx sd' M' ∧ IL (n + 1) sd' M' := by
  obtain ⟨w, d1, s1, _, _, e1⟩ := take_eq d s 6 [room a, room b] (by omega) (by omega)
  by_cases c3 : w < 3
  · have t := turn1 (br := brA) ga gb ha hb hk ko hn (x7' := some (.lst (prs b))) (x8' := some (.int w)) (brA1 (x0 := x0) (x5 := x5) (x8 := some (.int w)) (x9 := x9) (x10 := x10) (x11 := x11) (x12 := x12) (x13 := x13) (x14 := x14) (x15 := x15) (kept := kept) (d := d1) (s := s1) ga gb ha hb hn)
    obtain ⟨sd', M', h1, h2⟩ := t
    refine ⟨sd', M', ?_, h2⟩
    rw [← h1]
    simp [bodyL, sdl, e0, e1, c3, fnv, sSeq, sIf, sSet, sRet, sNx, sDo, tOf, tAnd, tOr, tNot, eAnd, eNot, eBin, eUn, eVar, eC, eCall, eMeth, eFld, aCons, aNil, eTup, eLst, sget, R.ofO, drf, dB, dIx, dGt, dLt, dMod, dDiv, dMul, dAdd, dSub, dLen, atI0, atI1, ixN0, ixN1, memD, moD, pLst, D.mo, sPutM, isiInt, isiBool, isiList, isiT, dTy]
  · by_cases c5 : w < 5 ∧ b ≠ []
    · have t := turn1 (br := brB) ga gb ha hb hk ko hn (x7' := some (.lst (prs b))) (x8' := some (.int w)) (brB1 (x0 := x0) (x5 := x5) (x8 := some (.int w)) (x9 := x9) (x10 := x10) (x11 := x11) (x12 := x12) (x13 := x13) (x14 := x14) (x15 := x15) (kept := kept) (d := d1) (s := s1) ga gb ha hb hn c5.2)
      obtain ⟨sd', M', h1, h2⟩ := t
      refine ⟨sd', M', ?_, h2⟩
      rw [← h1]
      have em : b.isEmpty = false := by cases h : b with
        | nil => exact absurd h c5.2
        | cons q t => rfl
      have e2 := ne_nil b
      rw [em] at e2
      simp [bodyL, sdl, e0, e1, c3, c5.1, e2, fnv, sSeq, sIf, sSet, sRet, sNx, sDo, tOf, tAnd, tOr, tNot, eAnd, eNot, eBin, eUn, eVar, eC, eCall, eMeth, eFld, aCons, aNil, eTup, eLst, sget, R.ofO, drf, dB, dIx, dGt, dLt, dMod, dDiv, dMul, dAdd, dSub, dLen, atI0, atI1, ixN0, ixN1, memD, moD, pLst, D.mo, sPutM, isiInt, isiBool, isiList, isiT, dTy]
    · have t := turn1 (br := brC) ga gb ha hb hk ko hn (x7' := some (.lst (prs b))) (x8' := some (.int w)) (brC1 (x0 := x0) (x5 := x5) (x8 := some (.int w)) (x9 := x9) (x10 := x10) (x11 := x11) (x12 := x12) (x13 := x13) (x14 := x14) (x15 := x15) (kept := kept) (d := d1) (s := s1) ga gb ha hb hn)
      obtain ⟨sd', M', h1, h2⟩ := t
      refine ⟨sd', M', ?_, h2⟩
      rw [← h1]
      by_cases c6 : w < 5
      · have em : b = [] := Classical.byContradiction fun z => c5 ⟨c6, z⟩
        have e2 := ne_nil b
        rw [em] at e2
        simp only [List.isEmpty_nil, Bool.not_true] at e2
        rw [em] at e0 e1 ⊢
        simp [bodyL, sdl, e0, e1, c3, c6, e2, fnv, sSeq, sIf, sSet, sRet, sNx, sDo, tOf, tAnd, tOr, tNot, eAnd, eNot, eBin, eUn, eVar, eC, eCall, eMeth, eFld, aCons, aNil, eTup, eLst, sget, R.ofO, drf, dB, dIx, dGt, dLt, dMod, dDiv, dMul, dAdd, dSub, dLen, atI0, atI1, ixN0, ixN1, memD, moD, pLst, D.mo, sPutM, isiInt, isiBool, isiList, isiT, dTy]
      · simp [bodyL, sdl, e0, e1, c3, c6, fnv, sSeq, sIf, sSet, sRet, sNx, sDo, tOf, tAnd, tOr, tNot, eAnd, eNot, eBin, eUn, eVar, eC, eCall, eMeth, eFld, aCons, aNil, eTup, eLst, sget, R.ofO, drf, dB, dIx, dGt, dLt, dMod, dDiv, dMul, dAdd, dSub, dLen, atI0, atI1, ixN0, ixN1, memD, moD, pLst, D.mo, sPutM, isiInt, isiBool, isiList, isiT, dTy]

theorem body_ok {sd : Sd} {M : Mem} (h : IL n sd M) (hn : n ≤ 100) (t : Option D) : ∃ sd' M', bodyL (sd.set 5 t) M = .nx sd' M' ∧ IL (n + 1) sd' M' := by
  obtain ⟨d, s, a, b, kept, x0, x5, x6, x7, x8, x9, x10, x11, x12, x13, x14, x15, rfl, rfl, ga, gb, ha, hb, hk, ko⟩ := h
  obtain ⟨v, d1, s1, v0, v1, e⟩ := take_eq d s 2 [room a, room b] (by omega) (by omega)
  have hv : v = 0 ∨ v = 1 := by omega
  show ∃ sd' M', bodyL (sdl x0 kept a b t x6 x7 x8 x9 x10 x11 x12 x13 x14 x15) _ = .nx sd' M' ∧ IL (n + 1) sd' M'
  rcases hv with rfl | rfl
  · exact body0 ga gb ha hb hk ko hn d s e
  · exact body1 ga gb ha hb hk ko hn d s e
theorem loop_ok : ∀ (xs : List D) (n : Nat) (sd : Sd) (M : Mem), n + xs.length ≤ 100 → IL n sd M → ∃ sd' M' m, forD (gN 5) bodyL xs sd M = .nx sd' M' ∧ m ≤ 100 ∧ IL m sd' M'
  | [], n, sd, M, hn, h => ⟨sd, M, n, rfl, by simp at hn; omega, h⟩
  | x :: xs, n, sd, M, hn, h => by
    rw [List.length_cons] at hn
    obtain ⟨sd1, M1, e1, h1⟩ := body_ok h (by omega) (some x)
    obtain ⟨sd2, M2, m, e2, hm, h2⟩ := loop_ok xs (n + 1) sd1 M1 (by omega) h1
    refine ⟨sd2, M2, m, ?_, hm, h2⟩
    rw [forD]
    show (match bodyL (sd.set 5 (some x)) M with
      | .nx sd2 M2 => forD (gN 5) bodyL xs sd2 M2
      | .cnt sd2 M2 => forD (gN 5) bodyL xs sd2 M2
      | .brk sd2 M2 => .nx sd2 M2
      | .ret d M2 => .ret d M2
      | .exc x sd2 M2 => .exc x sd2 M2
      | .bad => .bad) = _
    rw [e1]
    exact e2
theorem kept_lc (M : Mem) (y0 y1 y2 y3 y4 y5 y6 y7 y8 y9 y10 y11 y13 y14 y15 : Option D) : ∀ kept : List D, KOk kept → lcD (gN 12) (tOf (eBin dNeo (eBin dIx (eVar 12) (eC (.int 0))) (eBin dIx (eVar 12) (eC (.int 1))))) (eVar 12) [y0, y1, y2, y3, y4, y5, y6, y7, y8, y9, y10, y11, none, y13, y14, y15] kept M = .ok [] M
  | [], _ => rfl
  | q :: kept, h => by
    have ih := kept_lc M y0 y1 y2 y3 y4 y5 y6 y7 y8 y9 y10 y11 y13 y14 y15 kept fun r hr => h r (List.mem_cons_of_mem _ hr)
    obtain ⟨c, rfl⟩ := h q List.mem_cons_self
    simp [lcD, gN, ne_prs, fnv, sSeq, sIf, sSet, sRet, sNx, sDo, tOf, tAnd, tOr, tNot, eAnd, eNot, eBin, eUn, eVar, eC, eCall, eMeth, eFld, aCons, aNil, eTup, eLst, sget, R.ofO, drf, dB, dIx, dGt, dLt, dMod, dDiv, dMul, dAdd, dSub, dLen, atI0, atI1, ixN0, ixN1, memD, moD, pLst, D.mo, sPutM, isiInt, isiBool, isiList, isiT, dTy] at ih ⊢
    exact ih
theorem rest_ok {sd : Sd} {M : Mem} (h : IL n sd M) (hn : n ≤ 100) : ∃ M', restL sd M = .ret (.bl true) M' := by
  obtain ⟨d, s, a, b, kept, x0, x5, x6, x7, x8, x9, x10, x11, x12, x13, x14, x15, rfl, rfl, ga, gb, ha, hb, hk, ko⟩ := h
  have e1 := fun M y0 y1 y2 y3 y4 y5 y6 y7 y8 y9 y10 y11 y13 y14 y15 => kept_lc M y0 y1 y2 y3 y4 y5 y6 y7 y8 y9 y10 y11 y13 y14 y15 kept ko
  have e2 := stands_eq 1 a [feed d s, room a, room b] rfl (by omega) ga
  have e3 := stands_eq 2 b [feed d s, room a, room b] rfl (by omega) gb
  have e4 : dNeo (.lst []) (.lst []) = some (.bl false) := rfl
  have hz : kept.length ≤ 1000000 := by omega
  exact ⟨[feed d s, room a, room b], by simp [restL, sdl, iSeq, dSeq, eLc, wipeD, hz, e1, e2, e3, e4, fnv, sSeq, sIf, sSet, sRet, sNx, sDo, tOf, tAnd, tOr, tNot, eAnd, eNot, eBin, eUn, eVar, eC, eCall, eMeth, eFld, aCons, aNil, eTup, eLst, sget, R.ofO, drf, dB, dIx, dGt, dLt, dMod, dDiv, dMul, dAdd, dSub, dLen, atI0, atI1, ixN0, ixN1, memD, moD, pLst, D.mo, sPutM, isiInt, isiBool, isiList, isiT, dTy]⟩
theorem law_true (ns : List Int) : ∃ M, fe_law [.scr ns] [] = .ok (.bl true) M := by
  obtain ⟨d, s, e⟩ := feed_eq ns []
  obtain ⟨v, d1, s1, v0, v1, e1⟩ := take_eq d s 41 [room [], room []] (by omega) (by omega)
  have i0 : IL 0 (sdl (some (.scr ns)) [] [] [] none none none none none none none none none none none) [feed d1 s1, room [], room []] := ⟨d1, s1, [], [], [], _, _, _, _, _, _, _, _, _, _, _, _, rfl, rfl, True.intro, True.intro, Nat.le_refl _, Nat.le_refl _, Nat.le_refl _, fun _ h => nomatch h⟩
  have hr : (rngD 0 v.toNat).length = v.toNat := by simp [rngD]
  obtain ⟨sd2, M2, m, e2, hm, i2⟩ := loop_ok (rngD 0 v.toNat) 0 _ _ (by rw [hr]; omega) i0
  obtain ⟨M3, e3⟩ := rest_ok i2 hm
  have r62v : La.r62 v := by unfold La.r62; omega
  have m1 := init_eq [feed d s]
  have m2 := init_eq [feed d s, room []]
  have el : ev_law (([D.scr ns].map some) ++ List.replicate 15 none) [] = .ret (.bl true) M3 := by
    rw [law_ev]
    unfold sSeq
    have s1' : sSet 1 (eMem (eCall fe__law_feed (aCons (eVar 0) (aCons (eC (.int 0)) aNil)))) (([D.scr ns].map some) ++ List.replicate 15 none) [] = .nx [some (.scr ns), some (.obj 0), none, none, none, none, none, none, none, none, none, none, none, none, none, none] [feed d s] := by
      simp [eMem, e, feed, List.replicate, fnv, sSeq, sIf, sSet, sRet, sNx, sDo, tOf, tAnd, tOr, tNot, eAnd, eNot, eBin, eUn, eVar, eC, eCall, eMeth, eFld, aCons, aNil, eTup, eLst, sget, R.ofO, drf, dB, dIx, dGt, dLt, dMod, dDiv, dMul, dAdd, dSub, dLen, atI0, atI1, ixN0, ixN1, memD, moD, pLst, D.mo, sPutM, isiInt, isiBool, isiList, isiT, dTy]
    rw [s1', F.thn_nx]
    have s2' : sSet 2 (eLst (aCons (eMake "Room" fe_Room_ini aNil) (aCons (eMake "Room" fe_Room_ini aNil) aNil))) [some (.scr ns), some (.obj 0), none, none, none, none, none, none, none, none, none, none, none, none, none, none] [feed d s] = .nx [some (.scr ns), some (.obj 0), some (.lst [.obj 1, .obj 2]), none, none, none, none, none, none, none, none, none, none, none, none, none] [feed d s, room [], room []] := by
      have q1 : ∀ sd, eMake "Room" fe_Room_ini aNil sd [feed d s] = .ok (.obj 1) [feed d s, room []] := fun sd => m1
      have q2 : ∀ sd, eMake "Room" fe_Room_ini aNil sd [feed d s, room []] = .ok (.obj 2) [feed d s, room [], room []] := fun sd => m2
      simp [sSet, eLst, aCons, aNil, q1, q2]
    rw [s2', F.thn_nx]
    have s3' : sSet 3 (eLst aNil) [some (.scr ns), some (.obj 0), some (.lst [.obj 1, .obj 2]), none, none, none, none, none, none, none, none, none, none, none, none, none] [feed d s, room [], room []] = .nx [some (.scr ns), some (.obj 0), some (.lst [.obj 1, .obj 2]), some (.lst []), none, none, none, none, none, none, none, none, none, none, none, none] [feed d s, room [], room []] := rfl
    rw [s3', F.thn_nx]
    have s4' : sSet 4 (eLst (aCons (eLst aNil) (aCons (eLst aNil) aNil))) [some (.scr ns), some (.obj 0), some (.lst [.obj 1, .obj 2]), some (.lst []), none, none, none, none, none, none, none, none, none, none, none, none] [feed d s, room [], room []] = .nx (sdl (some (.scr ns)) [] [] [] none none none none none none none none none none none) [feed d s, room [], room []] := rfl
    rw [s4', F.thn_nx]
    have s5' : sFor (iR1 (aCons (eCall fe__law_take (aCons (eVar 1) (aCons (eC (.int 41)) aNil))) aNil)) (gN 5) bodyL (sdl (some (.scr ns)) [] [] [] none none none none none none none none none none none) [feed d s, room [], room []] = .nx sd2 M2 := by
      unfold sFor iR1
      simp [aCons, aNil, eCall, eVar, eC, sget, sdl, R.ofO, e1, r62v] at e2 ⊢
      exact e2
    rw [s5', F.thn_nx]
    exact e3
  refine ⟨M3, ?_⟩
  show fnv 1 16 ev_law [.scr ns] [] = _
  unfold fnv
  rw [if_pos (show [D.scr ns].length = 1 from rfl)]
  show (match ev_law (([D.scr ns].map some) ++ List.replicate 15 none) [] with
    | .ret d M' => R.ok d M'
    | .nx _ M' => .ok .non M'
    | .exc x _ M' => .exc x M'
    | _ => .bad) = _
  rw [el]

end Wk75


theorem PySem.Challenge.cw_latehall_k75_rooms_holds : PySem.Challenge.rw_latehall_k75_rooms.Holds := by
  exact Wk75.holds_of fun ns _ => Wk75.law_true ns
